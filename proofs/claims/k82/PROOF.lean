import PyProof.Rows.All
import Wide.All
import OpenK.AllK
import Wide.FinOn
import HandS.ForMost
import HandS.Exc
import HandS.WordsExc
import HandS.CallSlots
import HandS.Walk
import HandS.TryOnly
import HandS.ExcOwn
import HandS.Lambda
import KE.KeyNested
import KE.KDictKeyed
import HandS.TupAny
import HandS.TupMul
import HandS.Wide
import HandS.Style
import HandS.Deep
import HandS.DictEq
import HandS.IsInst
import HandS.Conv
import HandS.StrMore
import HandS.Zip
import HandS.Rev
import HandS.ExcIs
import HandS.ExcField
import HandS.RaiseMore
import HandS.TryElse
import KE.GoesMore
import KE.GoesZip
import KE.KExcIs
import HandS.Set
import HandS.Strs
import HandS.SetFor
import PyProof.Rows.SortShellAny
import PyProof.StrLawsFirst
import HandS.ExcInit
import HandS.DictTup
import PyProof.ReprRoads
import PyProof.CallFns
import PyProof.ReprText
import PyProof.StrLawsRepr
import PyProof.StrLawsTight
import PyProof.Rows.StrPartPair
import HandS.Flt
import KE.KStrOpen
import KE.DataFind
import PyProof.CollectStr
import HandS.More
import HandS.TupLen
import HandS.SortRule
import HandS.SortInts
import HandS.TupSets
import HandS.TupLe
import KE.KDictSum
import HandS.SortKw
import KE.DataMinMax
import HandS.ListItems
import KE.KItemsList
import PyProof.ZipIter
import PyProof.DictMoreH
import PyProof.DictRoadsH
import KE.KDictWalk
import HandS.EndTab
import KE.KNestM
import HandS.Iter
import HandS.Dict
import KE.KDictZip
import KE.KEqDict
import PyProof.NeData
import PyProof.EqLayable
import KE.OsRunLaw
import KE.HD2
import PySem.Challenge.RW_cutreach_k82_books_not_over
set_option Elab.async false
set_option linter.all false
set_option maxRecDepth 100000
abbrev waa:=@List.length_map
abbrev wab:=@List.length_cons
abbrev wac:=@Bool.and_eq_true
abbrev wad:=@Option.map_eq_some_iff
abbrev wae:=@List.mem_map
abbrev waf:=@List.mem_of_getElem?
abbrev wag:=@List.all_eq_true
abbrev wah:=@List.map_cons
abbrev wai:=@List.prefix_refl
abbrev waj:=@List.getElem?_eq_some_iff
abbrev wak:=@Bool.false_ne_true
abbrev wal:=@List.getElem?_map
abbrev wam:=@Bool.true_and
abbrev wan:=@List.getElem?_eq_getElem
abbrev wao:=@List.length_append
abbrev wap:=@Array.length_toList
abbrev waq:=@List.getElem?_append_left
abbrev war:=@List.getElem?_eq_none
abbrev was:=@List.length_nil
abbrev wat:=@List.mem_cons
abbrev wau:=@List.mem_append
abbrev wav:=@Bool.false_and
abbrev waw:=@List.mem_cons_self
abbrev wax:=@List.nil_append
abbrev waz:=@List.getElem?_set_self
abbrev waA:=@List.getD_eq_getElem?_getD
abbrev waB:=@Option.bind_eq_some_iff
abbrev waC:=@List.mem_singleton
abbrev waD:=@List.set_cons_succ
abbrev waE:=@List.set_cons_zero
abbrev waF:=@List.getElem?_set_ne
abbrev waG:=@Bool.false_eq_true
abbrev waH:=@List.getElem?_append_right
abbrev waI:=@List.getElem?_cons_zero
abbrev waJ:=@List.mem_cons_of_mem
abbrev waK:=@Option.bind_some
abbrev waL:=@Nat.le_refl
abbrev waM:=@List.find?_cons
abbrev waN:=@Nat.zero_le
abbrev waO:=@List.length_reverse
abbrev waP:=@List.map_append
abbrev waQ:=@List.getElem?_cons_succ
abbrev waR:=@List.pairwise_singleton
abbrev waS:=@List.mem_append_left
abbrev waT:=@List.map_map
abbrev waU:=@Nat.zero_add
abbrev waV:=@List.nodup_iff_pairwise_ne
abbrev waW:=@List.size_toArray
abbrev waX:=@List.any_cons
abbrev waY:=@Bool.and_false
abbrev waZ:=@Option.map_some
abbrev wa0:=@List.append_nil
abbrev wa1:=@Bool.eq_iff_iff
abbrev wa2:=@List.nodup_cons
abbrev wa3:=@Option.isSome_some
abbrev wa4:=@Nat.le_of_not_lt
abbrev wa5:=@Bool.or_eq_true
abbrev wa6:=@Int.emod_nonneg
abbrev wa7:=@List.lookup_cons
abbrev wa8:=@List.map_nil
abbrev wa9:=@Int.emod_lt_of_pos
abbrev wba:=@List.mem_of_mem_take
abbrev wbb:=@List.eq_nil_of_length_eq_zero
abbrev wbc:=@List.length_singleton
abbrev wbd:=@List.length_range
abbrev wbe:=@Int.toNat_natCast
abbrev wbf:=@List.perm_ext_iff_of_nodup
abbrev wbg:=@List.map_congr_left
abbrev wbh:=@List.replicate_succ
abbrev wbi:=@List.mergeSort_perm
abbrev wbj:=@List.pairwise_mergeSort
abbrev wbk:=@Option.isSome_none
abbrev wbl:=@List.flatten_cons
abbrev wbm:=@List.mem_range
abbrev wbn:=@Array.toList_inj
abbrev wbo:=@List.cons_append
abbrev wbp:=@List.getElem?_range
abbrev wbq:=@List.append_toArray
abbrev wbr:=@Nat.le_trans
abbrev wbs:=@Int.natCast_nonneg
abbrev wbt:=@Nat.ne_of_lt
abbrev wbu:=@List.mem_filterMap
abbrev wbv:=@Bool.true_eq_false
abbrev wbw:=@List.nodup_nil
abbrev wbx:=@List.nodup_append
abbrev wby:=@List.ext_getElem?
abbrev wbz:=@List.pairwise_map
abbrev wbA:=@Nat.lt_irrefl
abbrev wbB:=@Nat.succ_le_succ
abbrev wbC:=@Array.all_toList
abbrev wbD:=@List.getElem_mem
abbrev wbE:=@Bool.or_true
abbrev wbF:=@Int.add_zero
namespace TH
open PySem PySem.W PyProof.Rows HeadRun
theorem split3 {α β γ δ:Type} {o:Option α} {f:α→β} {g:α→γ} {h:α→δ} {b:β} {c:γ} {d:δ} (h1:o.map f=some b) (h2:o.map g=some c) (h3:o.map h=some d):o.map (fun s=>(f s,g s,h s))=some (b,c,d):=by
 cases o with
 | none=>cases h1
 | some s=>
  rw [waZ] at *
  rw [Option.some.inj h1,Option.some.inj h2,Option.some.inj h3]
theorem split2 {α β γ:Type} {o:Option α} {F:α→β × γ} {b:β} {c:γ} (h1:o.map (fun s=>(F s).1)=some b) (h2:o.map (fun s=>(F s).2)=some c):o.map F=some (b,c):=by
 cases o with
 | none=>cases h1
 | some s=>exact congrArg some (Prod.ext (Option.some.inj h1) (Option.some.inj h2))
theorem head_split {r:OpenRow} {q:Program} {K:Params→Frag} {as:List Addr} {ek:∀ P,as=(K P).map (·.1)} {M:Nat} {d:DefRec} {ts:List Addr}
  (e:opening r.prog=plainProg r.prog.main.scope.names) (f:∀ s,fenceModules? r.prog s=some s)
  (r1:∀ (w:World) (os:OsState),(endF (stepQ (denQ tabQ) r.prog w) M r.prog w os).map (fun s=>looksF r.prog (boot_heap w.params) s.abs)=some true)
  (r2:∀ (w:World) (os:OsState),(endF (stepQ (denQ tabQ) r.prog w) M r.prog w os).map (fun s=>seenQ q [] (importedModules r.prog.main.body) (fun s=>xlAt q [] s && recOk r.toRowW.records s) s.abs)=some (openGood q []))
  (r3:∀ (w:World) (os:OsState),(endF (stepQ (denQ tabQ) r.prog w) M r.prog w os).map (fun s=>(as.map (getT s),ts.map (getT s)))=some ((K w.params).map (fun x=>some x.2),ts.map fun _=>some (tabObj #[])))
  (hdef:defOf q r.name=some (d,[])) (hp:r.prog.theDef r.name=some (d.params,d.body,d.scope)) (hk:kwWritten? d.params.kwonlyargs d.params.kw_defaults=some [])
  (hwr:(!r.writes || r.records.isEmpty)=true) (k1:r.wellSaid=true) (ok:(chainsOk q && opensWell r.prog && (frees r.toRowW && r.within.isEmpty))=true) (hb:r.prog.bare) (hw:r.toRowW.promised)
  (hc:WalkO q [] (XL q []) (Hook.says (kmHook K as ek ts)) r.toRowW d [] fun f vs=>PySem.call f vs):r.Holds:=
 head_any (H:=kmHook K as ek ts) (ob:=fun s=>(as.map (getT s),ts.map (getT s))) (fun s=>Prod.ext (wbg fun a _=>getT_eq s a) (wbg fun a _=>getT_eq s a)) e f (fun w os=>split3 (r1 w os) (r2 w os) (r3 w os)) hdef hp hk hwr k1 ok hb hw hc
abbrev pw:Program:=PySem.Challenge.pw_cutreach_k82_books_not_over
noncomputable def vw:Program:=view pw [0,2,3,4,5,6,7,9,10,11,12,13,14,15,16,17,18,19,21,22,23,24,25,26,27,28,29,31,32,33,34,35,36,37,39,41,42,43,44,45,46,47,48,49]
noncomputable abbrev endR (w:World) (os:OsState):Option SharedT:=endF (stepQ (denQ tabQ) pw w) 40000 pw w os
noncomputable abbrev seenR (s:SharedT):=seenQ vw [] (importedModules pw.main.body) (fun s=>xlAt vw [] s && recOk (PySem.Challenge.rw_cutreach_k82_books_not_over).row.toRowW.records s) s.abs
set_option maxHeartbeats 0 in
theorem law_of (h:(PySem.Challenge.rw_cutreach_k82_books_not_over).row.wellSaid=true→(PySem.Challenge.rw_cutreach_k82_books_not_over).row.Holds):PySem.Challenge.rw_cutreach_k82_books_not_over.Holds:=by
 w_on; o_law; exact h (by assumption)
theorem r1 (w:World) (os:OsState):(endR w os).map (fun s=>looksF pw (boot_heap w.params) s.abs)=some true:=by kernel_rfl
def mpX {α β:Type} (f:α→β):List α→List β
 | []=>[]
 | x::l=>f x::mpX f l
theorem mpX_eq {α β:Type} (f:α→β):∀ l:List α,mpX f l=l.map f
 | []=>rfl
 | x::l=>congrArg (f x :: ·) (mpX_eq f l)
theorem map2 {α β γ:Type} (n:Nat) {o:Option α} {Q:List γ} {f:α→γ→β} {g:γ→β} (h1:o.map (fun s=>(Q.take n).map (f s))=some (mpX g (Q.take n))) (h2:o.map (fun s=>(Q.drop n).map (f s))=some (mpX g (Q.drop n))):o.map (fun s=>Q.map (f s))=some (Q.map g):=by
 cases o with
 | none=>cases h1
 | some s=>
  rw [mpX_eq] at h1 h2
  have e1:(Q.take n).map (f s)=(Q.take n).map g:=Option.some.inj h1
  have e2:(Q.drop n).map (f s)=(Q.drop n).map g:=Option.some.inj h2
  have e:Q.map (f s)=Q.map g:=by rw [← List.take_append_drop n Q,waP,waP,e1,e2]
  exact congrArg some e
noncomputable def Q6:List ClsRec:=PySem.W.Fast.tw210736558901404530 vw (PySem.W.Fast.tw821141287760084731 vw [])
noncomputable def F6 (s:SharedT) (c:ClsRec):Option PlainShape:=PySem.W.Fast.tw15717526521509864196 s.abs.heap (PySem.W.Fast.tw12515865711710729776 c)
noncomputable def G6 (c:ClsRec):Option PlainShape:=some c.withCmp.plainShape
theorem seen6:(fun s:SharedT=>(seenR s).2.2.2.2.2.1)=fun s=>Q6.map (F6 s):=by
 rw [PySem.W.R.mapR_eq]
 kernel_rfl
set_option maxHeartbeats 0 in
theorem good6:plainGoodE vw (looseW vw [])=Q6.map G6:=by
 rw [Q6,← PySem.W.Fast.te210736558901404530,← PySem.W.Fast.te821141287760084731]
 rfl
noncomputable def Q1:List DefRec:=PySem.W.Fast.tw3399658132070893891 vw
noncomputable def F1 (s:SharedT) (d:DefRec):Option FnShape:=PySem.W.Fast.tw2020367076256383516 s.abs.heap mainGlobals d.name
noncomputable def G1 (d:DefRec):Option FnShape:=some d.shape
theorem seen1:(fun s:SharedT=>(seenR s).1.defs)=fun s=>(Q1.map (fun x=>x.name)).map (PySem.W.Fast.tw2020367076256383516 s.abs.heap mainGlobals):=by
 rw [PySem.W.R.mapR_eq]
 kernel_rfl
set_option maxHeartbeats 0 in
theorem good1:(expectedOf vw).defs=Q1.map G1:=by
 rw [Q1,← PySem.W.Fast.te3399658132070893891]
 rfl
theorem r2_6_0 (w:World) (os:OsState):(endR w os).map (fun s=>Q6.map (F6 s))=some (mpX G6 Q6):=by kernel_rfl
theorem r2_1_0 (w:World) (os:OsState):(endR w os).map (fun s=>Q1.map (F1 s))=some (mpX G1 Q1):=by kernel_rfl
theorem r2_1z (w:World) (os:OsState):(endR w os).map (fun s=>({(seenR s).1 with defs:=[]}:Seen))=some {expectedOf vw with defs:=[]}:=by kernel_rfl
theorem r2_1d (w:World) (os:OsState):(endR w os).map (fun s=>(seenR s).1.defs)=some (expectedOf vw).defs:=by
 rw [seen1,good1]
 refine Eq.trans ?_ ((r2_1_0 w os).trans (congrArg some (mpX_eq G1 Q1)))
 refine congrArg (fun f=>Option.map f (endR w os)) (funext fun s=>?_)
 rw [waT]
 rfl
theorem seen_mk {α:Type} {o:Option α} {f:α→Seen} {b:Seen} (h1:o.map (fun s=>(f s).defs)=some b.defs) (h2:o.map (fun s=>({f s with defs:=[]}:Seen))=some {b with defs:=[]}):o.map f=some b:=by
 cases o with
 | none=>cases h1
 | some s=>
  have h1:(f s).defs=b.defs:=Option.some.inj h1
  have h2:({f s with defs:=[]}:Seen) = {b with defs:=[]}:=Option.some.inj h2
  refine congrArg some ?_
  revert h1 h2
  generalize f s=x
  intro h1 h2
  cases x
  cases b
  cases h1
  cases h2
  rfl
theorem r2_1 (w:World) (os:OsState):(endR w os).map (fun s=>(seenR s).1)=some (expectedOf vw):=seen_mk (f:=fun s=>(seenR s).1) (r2_1d w os) (r2_1z w os)
theorem r2_2 (w:World) (os:OsState):(endR w os).map (fun s=>(seenR s).2.1)=some (bltViewBooted):=by kernel_rfl
noncomputable def K4 (s:SharedT):Bool:=PySem.W.Fast.tw10880121769531294198 s.abs.heap (PySem.W.Fast.tw821141287760084731 vw []) (PySem.W.R.mapR (fun x=>x.name) (PySem.W.Fast.tw3399658132070893891 vw)) (PySem.W.R.mapR (fun x=>x.fst) (PySem.W.Fast.tw7409074990110511671 vw)) (PySem.W.R.mapR (fun x=>x.name) (PySem.W.Fast.tw13664370479719496447 vw (PySem.W.Fast.tw821141287760084731 vw [])))
noncomputable def K3 (a:Bool) (s:SharedT):Bool:=a && PySem.W.Fast.tw14722251495701143533 s.abs.heap (importedModules pw.main.body) && s.abs.heap.isNs mainGlobals && s.abs.heap.isNs builtinsNs && PySem.W.Fast.tw10994771534591457954 vw s.abs.heap && (xlAt vw [] s.abs && recOk (PySem.Challenge.rw_cutreach_k82_books_not_over).row.toRowW.records s.abs) && (s.abs.gens.size == 0)
theorem r2_3a (w:World) (os:OsState):(endR w os).map K4=some true:=by kernel_rfl
theorem r2_3b (w:World) (os:OsState):(endR w os).map (K3 true)=some true:=by kernel_rfl
theorem seen3:(fun s:SharedT=>(seenR s).2.2.1)=fun s=>K3 (K4 s) s:=by kernel_rfl
theorem and3 {o:Option SharedT} (h1:o.map K4=some true) (h2:o.map (K3 true)=some true):o.map (fun s=>K3 (K4 s) s)=some true:=by
 cases o with
 | none=>cases h1
 | some s=>
  have a:K4 s=true:=Option.some.inj h1
  show some (K3 (K4 s) s)=_
  rw [a]
  exact h2
theorem r2_3 (w:World) (os:OsState):(endR w os).map (fun s=>(seenR s).2.2.1)=some (true):=by
 rw [seen3]
 exact and3 (r2_3a w os) (r2_3b w os)
theorem r2_4 (w:World) (os:OsState):(endR w os).map (fun s=>(seenR s).2.2.2.1)=some (true):=by kernel_rfl
theorem r2_5 (w:World) (os:OsState):(endR w os).map (fun s=>(seenR s).2.2.2.2.1)=some (pinGoodD (drecsOf vw)):=by kernel_rfl
theorem r2_6 (w:World) (os:OsState):(endR w os).map (fun s=>(seenR s).2.2.2.2.2.1)=some (plainGoodE vw (looseW vw [])):=by
 rw [seen6,good6]
 exact ((r2_6_0 w os).trans (congrArg some (mpX_eq G6 Q6)))
theorem r2_7 (w:World) (os:OsState):(endR w os).map (fun s=>(seenR s).2.2.2.2.2.2.1)=some (plainGoodD vw []):=by kernel_rfl
theorem wide8:wideGood vw=([],true):=by kernel_rfl
theorem r2_8a (w:World) (os:OsState):(endR w os).map (fun s=>(seenR s).2.2.2.2.2.2.2.1)=some (([],true):List (Option FnShape) × Bool):=by kernel_rfl
theorem r2_8 (w:World) (os:OsState):(endR w os).map (fun s=>(seenR s).2.2.2.2.2.2.2.1)=some (wideGood vw):=(r2_8a w os).trans (congrArg some wide8.symm)
theorem r2_9 (w:World) (os:OsState):(endR w os).map (fun s=>(seenR s).2.2.2.2.2.2.2.2)=some (clsGoodW vw []):=by kernel_rfl
set_option maxHeartbeats 0 in
theorem r2 (w:World) (os:OsState):(endR w os).map seenR=some (openGood vw []):=(split2 (r2_1 w os) (split2 (r2_2 w os) (split2 (r2_3 w os) (split2 (r2_4 w os) (split2 (r2_5 w os) (split2 (r2_6 w os) (split2 (r2_7 w os) (split2 (r2_8 w os) (r2_9 w os)))))))))
section
local macro_rules | `(tactic| o_headL ($_f $k $a $_e)) => `(tactic| (have z := $k; refine (show ∀ r : OpenRow, r.Holds by assumption) _))
set_option maxHeartbeats 0 in
theorem pre (h:∀ r:OpenRow,r.Holds):PySem.Challenge.rw_cutreach_k82_books_not_over.Holds:=by
 w_on; refine law_of fun said=>?_; k_headL
end
theorem r3 (w:World) (os:OsState):(endR w os).map (fun s=>(((TH.pre.heap_1 w.params).map (·.1)).map (getT s),([304]:List Addr).map (getT s)))=some ((TH.pre.heap_1 w.params).map (fun x=>some x.2),([304]:List Addr).map fun _=>some (tabObj #[])):=by kernel_rfl
end TH

namespace TT
open PySem
theorem nr {α:Sort _} {a b:α} (h:a=b):a=b:=h

inductive D where
 | non | bl (b:Bool) | int (i:Int) | str (s:Str)
 | lst (xs:List D) | tup (xs:List D)
 | dct (ps:List (D × D))
 | obj (c:Str) (fs:List (Str × D))
 | exc (c:Str) (fs:List (Str × D))
 | cls (c:Str) | ty (n:String)
 | loc (n:Nat)

inductive Cell where
 | lst (xs:List D) | dct (ps:List (D × D)) | dcT (ps:List (D × D)) | dcN (ps:List (D × D)) | dcF (ps:List (D × D)) | obj (c:Str) (fs:List (Str × D)) | dead | fn (k:Bool)

abbrev Mem:=List Cell
abbrev Ev:=List (Option D)

inductive R (α:Type) where
 | ok (a:α) (m:Mem) | exc (e:D) (m:Mem) | bad

def R.bind {α β:Type} (r:R α) (k:α→Mem→R β):R β:=match r with
 | .ok a m=>k a m
 | .exc e m=>.exc e m
 | .bad=>.bad
@[simp] theorem R.bind_ok {α β:Type} (a:α) (m:Mem) (k:α→Mem→R β):(R.ok a m).bind k=k a m:=nr rfl
@[simp] theorem R.bind_exc {α β:Type} (e:D) (m:Mem) (k:α→Mem→R β):(R.exc e m:R α).bind k = .exc e m:=nr rfl
@[simp] theorem R.bind_bad {α β:Type} (k:α→Mem→R β):(R.bad:R α).bind k = .bad:=nr rfl
def R.of {α:Type} (m:Mem):Option α→R α
 | some a=>.ok a m
 | none=>.bad
@[simp] theorem R.of_some {α:Type} (m:Mem) (a:α):R.of m (some a) = .ok a m:=nr rfl
@[simp] theorem R.of_none {α:Type} (m:Mem):(R.of m (none:Option α)) = .bad:=nr rfl

abbrev E:=Ev→Mem→R D
abbrev EL:=Ev→Mem→R (List D)
abbrev ET:=Ev→Mem→R Bool

abbrev LN:Nat:=16777216

def view (m:Mem):D→D
 | .loc n=>match m[n]? with
  | some (.lst xs)=>.lst xs
  | some (.dct ps)=>.dct ps
  | _=>.loc n
 | d=>d
@[simp] theorem qcD (m:Mem):view m .non = .non:=nr rfl
@[simp] theorem qcU (m:Mem) (b:Bool):view m (.bl b) = .bl b:=nr rfl
@[simp] theorem qbO (m:Mem) (i:Int):view m (.int i) = .int i:=nr rfl
@[simp] theorem qbP (m:Mem) (i:Str):view m (.str i) = .str i:=nr rfl
@[simp] theorem qcE (m:Mem) (i:List D):view m (.lst i) = .lst i:=nr rfl
@[simp] theorem qcF (m:Mem) (i:List D):view m (.tup i) = .tup i:=nr rfl
@[simp] theorem qcG (m:Mem) (i:List (D × D)):view m (.dct i) = .dct i:=nr rfl

def eVar (i:Nat):E:=fun ρ m=>match ρ[i]? with
 | some (some d)=>.ok d m
 | _=>.bad
def eC (d:D):E:=fun _ m=>.ok d m
def eOp (g:D→D→Option D) (a b:E):E:=fun ρ m=>(a ρ m).bind fun x m=>(b ρ m).bind fun y m=>.of m (g (view m x) (view m y))
def eUn (g:D→Option D) (a:E):E:=fun ρ m=>(a ρ m).bind fun x m=>.of m (g (view m x))
def eCmp (g:D→D→Option Bool) (a b:E):E:=fun ρ m=>(a ρ m).bind fun x m=>(b ρ m).bind fun y m=>.of m ((g (view m x) (view m y)).map D.bl)
def tCmp (g:D→D→Option Bool) (a b:E):ET:=fun ρ m=>(a ρ m).bind fun x m=>(b ρ m).bind fun y m=>.of m (g (view m x) (view m y))
def eChain (g g' : D→D→Option Bool) (a b c:E):E:=fun ρ m=>(a ρ m).bind fun x m=>(b ρ m).bind fun y m=>
 (R.of m (g (view m x) (view m y))).bind fun k m=>if k=true then (c ρ m).bind fun z m=>.of m ((g' (view m y) (view m z)).map D.bl) else .ok (.bl false) m
def tChain (g g' : D→D→Option Bool) (a b c:E):ET:=fun ρ m=>(a ρ m).bind fun x m=>(b ρ m).bind fun y m=>
 (R.of m (g (view m x) (view m y))).bind fun k m=>if k=true then (c ρ m).bind fun z m=>.of m (g' (view m y) (view m z)) else .ok false m
def dTruth:D→Option Bool
 | .non=>some false
 | .bl b=>some b
 | .int i=>some (i != 0)
 | .str s=>if s.length≤LN then some (s.length != 0) else none
 | .lst xs=>some (!xs.isEmpty)
 | .tup xs=>some (!xs.isEmpty)
 | _=>none
def tVal (a:E):ET:=fun ρ m=>(a ρ m).bind fun x m=>.of m (dTruth (view m x))
def tNot (t:ET):ET:=fun ρ m=>(t ρ m).bind fun b m=>.ok (!b) m
def tAnd (t u:ET):ET:=fun ρ m=>(t ρ m).bind fun b m=>if b=true then u ρ m else .ok false m
def tOr (t u:ET):ET:=fun ρ m=>(t ρ m).bind fun b m=>if b=true then .ok true m else u ρ m
def dBool:D→Option Bool
 | .bl b=>some b
 | _=>none
def eAnd (a b:E):E:=fun ρ m=>(a ρ m).bind fun x m=>(R.of m (dBool x)).bind fun k m=>if k=true then b ρ m else .ok (.bl false) m
def eOr (a b:E):E:=fun ρ m=>(a ρ m).bind fun x m=>(R.of m (dBool x)).bind fun k m=>if k=true then .ok (.bl true) m else b ρ m
def eNot (a:E):E:=fun ρ m=>(a ρ m).bind fun x m=>(R.of m (dBool x)).bind fun k m=>.ok (.bl (!k)) m
def eIf (t:ET) (a b:E):E:=fun ρ m=>(t ρ m).bind fun k m=>if k=true then a ρ m else b ρ m
def lNil:EL:=fun _ m=>.ok [] m
def lCons (a:E) (r:EL):EL:=fun ρ m=>(a ρ m).bind fun x m=>(r ρ m).bind fun xs m=>.ok (x::xs) m
def eTup (l:EL):E:=fun ρ m=>(l ρ m).bind fun xs m=>if xs.length≤LN then .ok (.tup xs) m else .bad
def mkL (M:Bool) (xs:List D) (m:Mem):R D:=if M=true then .ok (.loc m.length) (m++[.lst xs]) else .ok (.lst xs) m
@[simp] theorem qaH (xs:List D) (m:Mem):mkL false xs m = .ok (.lst xs) m:=nr rfl
@[simp] theorem qbQ (xs:List D) (m:Mem):mkL true xs m = .ok (.loc m.length) (m++[.lst xs]):=nr rfl
def eLst (M:Bool) (l:EL):E:=fun ρ m=>(l ρ m).bind fun xs m=>if xs.length≤LN then mkL M xs m else .bad
def eFrz (a:E):E:=fun ρ m=>(a ρ m).bind fun x m=>match x with
 | .loc n=>(match m[n]? with
  | some (.lst xs)=>.ok (.lst xs) (m.set n .dead)
  | _=>.bad)
 | x=>.ok x m
def eFun (g:List D→Option D) (l:EL):E:=fun ρ m=>(l ρ m).bind fun xs m=>.of m (g (xs.map (view m)))
def eFunL (M:Bool) (g:List D→Option (List D)) (l:EL):E:=fun ρ m=>(l ρ m).bind fun xs m=>(R.of m (g (xs.map (view m)))).bind fun ys m=>mkL M ys m
def dItems:D→Option (List D)
 | .lst xs=>some xs
 | .tup xs=>some xs
 | .str s=>some (s.cps.toList.map fun c=>.str ⟨#[c]⟩)
 | _=>none
def iSeq (a:E):EL:=fun ρ m=>(a ρ m).bind fun x m=>.of m (dItems x)
def dRange (n:Int):List D:=(List.range n.toNat).map fun i=>D.int (i:Nat)
def iRange (a:E):EL:=fun ρ m=>(a ρ m).bind fun x m=>match x with
 | .int n=>if -(2 ^ 62)≤n∧n < 2 ^ 62 then .ok (dRange n) m else .bad
 | _=>.bad
def dRange2 (i j:Int):List D:=(List.range (j - i).toNat).map fun k=>D.int (i+(k:Nat))
def iRange2 (l:EL):EL:=fun ρ m=>(l ρ m).bind fun ds m=>match ds with
 | [.int i,.int j]=>if (-(2 ^ 62)≤i∧i < 2 ^ 62)∧(-(2 ^ 62)≤j∧j < 2 ^ 62) then .ok (dRange2 i j) m else .bad
 | _=>.bad

inductive O where
 | nx (ρ:Ev) (m:Mem) | rt (d:D) (m:Mem) | bk (ρ:Ev) (m:Mem) | ct (ρ:Ev) (m:Mem) | exc (e:D) (ρ:Ev) (m:Mem) | bad
abbrev S:=Ev→Mem→O
def R.then {α:Type} (r:R α) (ρ:Ev) (k:α→Mem→O):O:=match r with
 | .ok a m=>k a m
 | .exc e m=>.exc e ρ m
 | .bad=>.bad
@[simp] theorem R.then_ok {α:Type} (a:α) (m:Mem) (ρ:Ev) (k:α→Mem→O):(R.ok a m).then ρ k=k a m:=nr rfl
@[simp] theorem R.then_exc {α:Type} (e:D) (m:Mem) (ρ:Ev) (k:α→Mem→O):(R.exc e m:R α).then ρ k = .exc e ρ m:=nr rfl
@[simp] theorem R.then_bad {α:Type} (ρ:Ev) (k:α→Mem→O):(R.bad:R α).then ρ k = .bad:=nr rfl
def sNext:S:=fun ρ m=>.nx ρ m
def sSeq (a b:S):S:=fun ρ m=>match a ρ m with
 | .nx ρ m=>b ρ m
 | o=>o
def sIf (t:ET) (a b:S):S:=fun ρ m=>(t ρ m).then ρ fun k m=>if k=true then a ρ m else b ρ m
def sRet (a:E):S:=fun ρ m=>(a ρ m).then ρ fun d m=>.rt d m
def sRetN:S:=fun _ m=>.rt .non m
def sExpr (a:E):S:=fun ρ m=>(a ρ m).then ρ fun _ m=>.nx ρ m
def sBreak:S:=fun ρ m=>.bk ρ m
def sCont:S:=fun ρ m=>.ct ρ m
abbrev T:=D→Ev→Option Ev
abbrev Ts:=List D→Ev→Option Ev
def gName (i:Nat):T:=fun d ρ=>some (ρ.set i (some d))
def gsNil:Ts:=fun ds ρ=>match ds with
 | []=>some ρ
 | _=>none
def gsCons (t:T) (u:Ts):Ts:=fun ds ρ=>match ds with
 | d::r=>(t d ρ).bind fun ρ=>u r ρ
 | []=>none
def gTup (n:Nat) (t:Ts):T:=fun d ρ=>match d with
 | .tup xs=>if xs.length=n then t xs ρ else none
 | .lst xs=>if xs.length=n then t xs ρ else none
 | _=>none
def sAsg (a:E) (g:T):S:=fun ρ m=>(a ρ m).then ρ fun d m=>match g d ρ with
 | some ρ=>.nx ρ m
 | none=>.bad
def sSet (i:Nat) (a:E):S:=fun ρ m=>(a ρ m).then ρ fun d m=>.nx (ρ.set i (some d)) m
def forL (g:T) (b:S):List D→S
 | [],ρ,m=>.nx ρ m
 | d::ds,ρ,m=>match g d ρ with
  | none=>.bad
  | some ρ=>match b ρ m with
   | .nx ρ m=>forL g b ds ρ m
   | .ct ρ m=>forL g b ds ρ m
   | .bk ρ m=>.nx ρ m
   | o=>o
def sFor (i:EL) (g:T) (b:S):S:=fun ρ m=>(i ρ m).then ρ fun ds m=>forL g b ds ρ m
def wipeE (ρ:Ev):List Nat→Ev
 | []=>ρ
 | v::vs=>(wipeE ρ vs).set v none
def compL (g:T) (t:ET) (e:E) (ρ:Ev):List D→List D→Mem→R (List D)
 | [],acc,m=>.ok acc m
 | d::ds,acc,m=>match g d ρ with
  | none=>.bad
  | some ρ'=>match t ρ' m with
   | .ok true m=>(match e ρ' m with
    | .ok y m=>if acc.length < LN then compL g t e ρ ds (acc++[y]) m else .bad
    | _=>.bad)
   | .ok false m=>compL g t e ρ ds acc m
   | _=>.bad
def tYes:ET:=fun _ m=>.ok true m
def eComp (M:Bool) (i:EL) (g:T) (t:ET) (e:E) (vs:List Nat):E:=fun ρ m=>(i ρ m).bind fun ds m=>(compL g t e (wipeE ρ vs) ds [] m).bind fun ys m=>mkL M ys m

abbrev F:=List D→Mem→R D
def O.end:O→R D
 | .nx _ m=>.ok .non m
 | .rt d m=>.ok d m
 | .exc e _ m=>.exc e m
 | _=>.bad
def runDef (n:Nat) (b:S):F:=fun ds m=>(b (ds.map some++List.replicate (n - ds.length) none) m).end

mutual
def noLoc:D→Bool
 | .lst xs=>noLocs xs
 | .tup xs=>noLocs xs
 | .dct ps=>noLocP ps
 | .obj _ fs=>noLocF fs
 | .exc _ _=>false
 | .loc _=>false
 | .non=>true | .bl _=>true | .int _=>true | .str _=>true | .cls _=>true | .ty _=>true
def noLocs:List D→Bool
 | []=>true
 | x::xs=>noLoc x && noLocs xs
def noLocP:List (D × D)→Bool
 | []=>true
 | (k,v)::r=>noLoc k && noLoc v && noLocP r
def noLocF:List (Str × D)→Bool
 | []=>true
 | (_,v)::r=>noLoc v && noLocF r
end
def eCall (M:Bool) (n:Nat) (f:F) (l:EL):E:=fun ρ m=>(l ρ m).bind fun ds m=>if ds.length=n∧noLocs ds=true then (match f ds [] with
 | .ok d m'=>(match d with
  | .loc j=>(match m'[j]? with
   | some (.lst xs)=>if noLocs xs=true then mkL M xs m else .bad
   | _=>.bad)
  | d=>if noLoc d=true∧M=false then .ok d m else .bad)
 | .exc e _=>.exc e m
 | .bad=>.bad) else .bad

def okS (s:Str):Bool:=s.cps.all (· < 0x110000)
def dAdd:D→D→Option D
 | .int i,.int j=>some (.int (i+j))
 | .str x,.str y=>if x.length+y.length≤LN then some (.str (x++y)) else none
 | .lst xs,.lst ys=>if xs.length+ys.length≤LN then some (.lst (xs++ys)) else none
 | .tup xs,.tup ys=>if xs.length+ys.length≤LN then some (.tup (xs++ys)) else none
 | _,_=>none
def dSub:D→D→Option D
 | .int i,.int j=>some (.int (i - j))
 | _,_=>none
def dMul:D→D→Option D
 | .int i,.int j=>if (-(2 ^ 64) < i∧i < 2 ^ 64)∨(-(2 ^ 64) < j∧j < 2 ^ 64) then some (.int (i * j)) else none
 | .lst xs,.int k=>if -(2 ^ 63)≤k∧k < 2 ^ 63∧xs.length * k.toNat≤LN then some (.lst (List.replicate k.toNat xs).flatten) else none
 | .tup xs,.int k=>if xs≠[]∧0≤k∧k≤1000∧xs.length≤1000 then some (.tup (List.replicate k.toNat xs).flatten) else none
 | .str s,.int k=>if -1000000≤k∧k≤1000000∧s.length * k.toNat≤LN then some (.str ⟨(List.replicate k.toNat s.cps.toList).flatten.toArray⟩) else none
 | _,_=>none
def dMod:D→D→Option D
 | .int i,.int j=>if 0 < j then some (.int (i % j)) else none
 | _,_=>none
def dDiv:D→D→Option D
 | .int i,.int j=>if 0 < j∧j < 1267650600228229401496703205376 then some (.int (i / j)) else none
 | _,_=>none
def dPow:D→D→Option D
 | .int i,.int j=>if 0≤j∧j≤1000000∧i.natAbs < 2 ^ 64 then some (.int (i ^ j.toNat)) else none
 | _,_=>none
mutual
def eqvD:D→D→Bool
 | .non,.non=>true
 | .bl a,.bl b=>a == b
 | .bl a,.int j=>(if a then 1 else 0) == j
 | .int i,.bl b=>i == (if b then 1 else 0)
 | .int i,.int j=>i == j
 | .str x,.str y=>x == y
 | .lst xs,.lst ys=>eqvL xs ys
 | .tup xs,.tup ys=>eqvL xs ys
 | _,_=>false
def eqvL:List D→List D→Bool
 | [],[]=>true
 | x::xs,y::ys=>eqvD x y && eqvL xs ys
 | _,_=>false
end
def dataN:Nat→D→Bool
 | _,.non=>true
 | _,.bl _=>true
 | _,.int _=>true
 | _,.str _=>true
 | n+1,.lst xs=>xs.all (dataN n)
 | n+1,.tup xs=>xs.all (dataN n)
 | _,_=>false
def isData (d:D):Bool:=dataN 16 d
def noDct:D→D→Option Bool
 | .dct [],.dct []=>some true
 | _,_=>none
def dEq (x y:D):Option Bool:=if isData x=true∧isData y=true then some (eqvD x y) else noDct x y
def dNe (x y:D):Option Bool:=(dEq x y).map (!·)
def dLt:D→D→Option Bool
 | .int i,.int j=>some (decide (i < j))
 | _,_=>none
def dLe:D→D→Option Bool
 | .int i,.int j=>some (decide (i≤j))
 | _,_=>none
def dGt:D→D→Option Bool
 | .int i,.int j=>some (decide (j < i))
 | _,_=>none
def dGe:D→D→Option Bool
 | .int i,.int j=>some (decide (j≤i))
 | _,_=>none
def dIs:D→D→Option Bool
 | .non,.non=>some true
 | .bl a,.bl b=>some (decide (a=b))
 | .bl _,.non=>some false
 | .int _,.non=>some false
 | .str _,.non=>some false
 | .lst _,.non=>some false
 | .tup _,.non=>some false
 | .dct _,.non=>some false
 | .obj _ _,.non=>some false
 | .exc _ _,.non=>some false
 | .loc _,.non=>some false
 | .non,.bl _=>some false
 | _,_=>none
def dIsNot (x y:D):Option Bool:=(dIs x y).map (!·)
def flatB:D→Bool
 | .non=>true
 | .bl _=>true
 | .int _=>true
 | .str _=>true
 | _=>false
def dIn (x y:D):Option Bool:=match y with
 | .str z=>(match x with
  | .str s=>(match s.cps.toList with
   | [c]=>some (decide (c∈z.cps.toList))
   | _=>none)
  | _=>none)
 | .lst ys=>if isData x=true∧isData (.lst ys)=true then some (ys.any fun y=>eqvD y x) else none
 | .tup ys=>if flatB x=true∧ys.all flatB=true then some (ys.any fun y=>eqvD y x) else none
 | _=>none
def dNotIn (x y:D):Option Bool:=(dIn x y).map (!·)
def dIxN (n:Nat) (i:Int):Option Nat:=if 0≤i then (if i < n then some i.toNat else none) else if -(n:Int)≤i then some (i+n).toNat else none
def dIx:D→D→Option D
 | .lst xs,.int i=>(dIxN xs.length i).bind fun j=>xs[j]?
 | .tup xs,.int i=>(dIxN xs.length i).bind fun j=>xs[j]?
 | .str s,.int i=>if s.length≤LN then ((dIxN s.cps.toList.length i).bind fun j=>s.cps.toList[j]?).map fun c=>.str ⟨#[c]⟩ else none
 | _,_=>none
def sIxD (n d:Nat):Option Int→Nat
 | none=>d
 | some i=>if i < 0 then (i+n).toNat else min i.toNat n
def cutD {α:Type} (xs:List α) (lo hi:Option Int):List α:=(xs.drop (sIxD xs.length 0 lo)).take (sIxD xs.length xs.length hi - sIxD xs.length 0 lo)
def dCut (lo hi:Option Int):D→Option D
 | .lst xs=>some (.lst (cutD xs lo hi))
 | .tup xs=>some (.tup (cutD xs lo hi))
 | .str s=>if s.length≤LN then some (.str ⟨(cutD s.cps.toList lo hi).toArray⟩) else none
 | _=>none
abbrev EO:=Ev→Mem→R (Option Int)
def oNo:EO:=fun _ m=>.ok none m
def oSome (a:E):EO:=fun ρ m=>(a ρ m).bind fun x m=>match x with
 | .int i=>.ok (some i) m
 | _=>.bad
def eCut (a:E) (lo hi:EO):E:=fun ρ m=>(a ρ m).bind fun x m=>(lo ρ m).bind fun l m=>(hi ρ m).bind fun h m=>.of m (dCut l h (view m x))
def dRev:D→Option D
 | .lst xs=>some (.lst xs.reverse)
 | .tup xs=>some (.tup xs.reverse)
 | .str s=>if s.length≤LN then some (.str ⟨s.cps.toList.reverse.toArray⟩) else none
 | _=>none
def dLen:List D→Option D
 | [.str s]=>if s.length≤LN then some (.int s.length) else none
 | [.lst xs]=>some (.int xs.length)
 | [.tup xs]=>some (.int xs.length)
 | _=>none
def dInt:List D→Option D
 | [.int i]=>some (.int i)
 | [.bl b]=>some (.int (if b then 1 else 0))
 | _=>none
def dList:List D→Option (List D)
 | [.lst xs]=>some xs
 | [.tup xs]=>some xs
 | [.str s]=>if s.length≤LN then some (s.cps.toList.map fun c=>.str ⟨#[c]⟩) else none
 | _=>none
def dTuple:List D→Option D
 | [.lst xs]=>some (.tup xs)
 | [.tup xs]=>some (.tup xs)
 | _=>none
def dMax:List D→Option D
 | [.int i,.int j]=>some (.int (if j > i then j else i))
 | _=>none
def dMin:List D→Option D
 | [.int i,.int j]=>some (.int (if j < i then j else i))
 | _=>none
def dBools:List D→Option (List Bool)
 | []=>some []
 | .bl b::r=>(dBools r).map (b :: ·)
 | _=>none
def dInts:List D→Option (List Int)
 | []=>some []
 | .int b::r=>(dInts r).map (b :: ·)
 | _=>none
def dStrs:List D→Option (List Str)
 | []=>some []
 | .str b::r=>(dStrs r).map (b :: ·)
 | _=>none
def dAll:List D→Option D
 | [.lst xs]=>(dBools xs).map fun bs=>.bl (bs.all id)
 | _=>none
def dSum:List D→Option D
 | [.lst xs]=>(dInts xs).map fun bs=>.int bs.sum
 | _=>none
def leS (x y:Str):Bool:=decide (x.cps.toList≤y.cps.toList)
def tyIs (T:String):D→Option Bool
 | .non=>some false
 | .bl _=>some (T == "bool" || T == "int")
 | .int _=>some (T == "int")
 | .str _=>some (T == "str")
 | .lst _=>some (T == "list")
 | .tup _=>some (T == "tuple")
 | .dct _=>some (T == "dict")
 | _=>none
def dIsInst:List D→Option D
 | [x,.ty T]=>if T∈["bool","int","str","list","tuple","dict"] then (tyIs T x).map D.bl else none
 | _=>none
def eMeth (T:String) (g:D→List D→Option D) (a:E) (l:EL):E:=fun ρ m=>(a ρ m).bind fun x m=>if tyIs T (view m x)=some true then (l ρ m).bind fun xs m=>.of m (g (view m x) (xs.map (view m))) else .bad
def mJoin:D→List D→Option D
 | .str a,[.lst xs]=>(dStrs xs).bind fun ss=>if (ss.map (·.length)).sum+ss.length * a.length≤LN then some (.str (Str.join a ss)) else none
 | .str a,[.tup xs]=>(dStrs xs).bind fun ss=>if (ss.map (·.length)).sum+ss.length * a.length≤LN then some (.str (Str.join a ss)) else none
 | _,_=>none
def findD (x:D):List D→Option Nat
 | []=>none
 | y::ys=>if eqvD y x=true then some 0 else (findD x ys).map (· + 1)
def mIndex:D→List D→Option D
 | .lst xs,[y]=>if isData (.lst xs)=true∧isData y=true then (findD y xs).map fun j=>.int (j:Nat) else none
 | _,_=>none
def eAppend (a:E) (l:E):E:=fun ρ m=>(a ρ m).bind fun x m=>if tyIs "list" (view m x)=some true then (l ρ m).bind fun y m=>(match x with
 | .loc n=>(match m[n]? with
  | some (.lst xs)=>if xs.length < LN then .ok .non (m.set n (.lst (xs++[y]))) else .bad
  | _=>.bad)
 | _=>.bad) else .bad
def sSetIx (v o i:E):S:=fun ρ m=>(v ρ m).then ρ fun y m=>(o ρ m).then ρ fun x m=>(i ρ m).then ρ fun k m=>match x,k with
 | .loc n,.int k=>(match m[n]? with
  | some (.lst xs)=>(match dIxN xs.length k with
   | some j=>.nx ρ (m.set n (.lst (xs.set j y)))
   | none=>.bad)
  | _=>.bad)
 | _,_=>.bad

def dEnum (xs:List D):List D:=xs.zipIdx.map fun p=>.tup [.int (p.2:Nat),p.1]
def iEnum (l:EL):EL:=fun ρ m=>(l ρ m).bind fun ds m=>match ds with
 | [.lst xs]=>.ok (dEnum xs) m
 | _=>.bad
def dZip (xs ys:List D):List D:=(xs.zip ys).map fun p=>.tup [p.1,p.2]
def iZip (l:EL):EL:=fun ρ m=>(l ρ m).bind fun ds m=>match ds with
 | [x,y]=>R.of m ((dItems x).bind fun xs=>(dItems y).bind fun ys=>some (dZip xs ys))
 | _=>.bad
def eCallW (n:Nat) (f:F) (l:EL):E:=fun ρ m=>(l ρ m).bind fun ds m=>if ds.length=n then f ds m else .bad
def frzAt (i:Nat) (ρ:Ev) (m:Mem):O:=match ρ[i]? with
 | some (some (.loc n))=>(match m[n]? with
  | some (.lst xs)=>.nx (ρ.set i (some (.lst xs))) (m.set n .dead)
  | _=>.nx ρ m)
 | _=>.nx ρ m
def eCatM (a b:E):E:=fun ρ m=>(a ρ m).bind fun x m=>(b ρ m).bind fun y m=>match view m x,view m y with
 | .lst xs,.lst ys=>if xs.length+ys.length≤LN then mkL true (xs++ys) m else .bad
 | _,_=>.bad
def eDct0:E:=fun _ m=>.ok (.dct []) m
def sThenF (b:S) (i:Nat):S:=fun ρ m=>match b ρ m with
 | .nx ρ m=>frzAt i ρ m
 | o=>o
def hide:Option D→Option D
 | some d=>if noLoc d=true then some d else none
 | none=>none
def eLend (i:Nat) (f:E):E:=fun ρ m=>match ρ[i]? with
 | some (some (.loc n))=>(match m[n]? with
  | some (.lst xs)=>if noLocs xs=true then (match f ((ρ.map hide).set i (some (.lst xs))) [] with
   | .ok d _=>if flatB d=true then .ok d m else .bad
   | _=>.bad) else .bad
  | _=>.bad)
 | _=>.bad

mutual
def noX:D→Bool
 | .lst xs=>noXs xs
 | .tup xs=>noXs xs
 | .dct ps=>noXP ps
 | .obj _ fs=>noXF fs
 | .exc _ _=>false
 | .loc _=>true
 | .non=>true | .bl _=>true | .int _=>true | .str _=>true | .cls _=>true | .ty _=>true
def noXs:List D→Bool
 | []=>true
 | x::xs=>noX x && noXs xs
def noXP:List (D × D)→Bool
 | []=>true
 | (k,v)::r=>noX k && noX v && noXP r
def noXF:List (Str × D)→Bool
 | []=>true
 | (_,v)::r=>noX v && noXF r
end
def unD:Option D→Option D
 | some d=>if noX d=true then some d else none
 | none=>none
def unC:Cell→Cell
 | .lst xs=>if noXs xs=true then .lst xs else .dead
 | .dct ps=>if noXP ps=true then .dct ps else .dead
 | .dcT ps=>if noXP ps=true then .dcT ps else .dead
 | .dcN ps=>if noXP ps=true then .dcN ps else .dead
 | .dcF ps=>if noXP ps=true then .dcF ps else .dead
 | .obj c fs=>if noXF fs=true then .obj c fs else .dead
 | .dead=>.dead
 | .fn _=>.dead
def unX (ρ:Ev):Ev:=ρ.map unD
def unM (m:Mem):Mem:=m.map unC
def sRaise (c:Str):S:=fun ρ m=>.exc (.exc c []) ρ m
abbrev XTab:=List ((Str × Str) × Bool)
def dIsX (t:XTab):List D→Option D
 | [.exc c _,.cls d]=>(t.lookup (c,d)).map D.bl
 | [.exc c _,.ty n]=>if n = "ValueError" then (t.lookup (c,("ValueError" : Str))).map D.bl else none
 | _=>none
def outX (i:Option Nat) (ρ:Ev):Ev:=match i with
 | some i=>(unX ρ).set i none
 | none=>unX ρ
def endX (i:Option Nat):O→O
 | .nx ρ m=>.nx (outX i ρ) (unM m)
 | .bk ρ m=>.bk (outX i ρ) (unM m)
 | .ct ρ m=>.ct (outX i ρ) (unM m)
 | .rt d m=>if noX d=true then .rt d (unM m) else .bad
 | _=>.bad
def dedupL {α:Type} [DecidableEq α]:List α→List α
 | []=>[]
 | x::l=>if x∈l then dedupL l else x::dedupL l
def dLenSet (d:D):Option D:=match (dItems d).bind dStrs with
 | some ks=>if ks.length < 4000 then some (.int ((dedupL ks).length:Nat)) else none
 | none=>match (dItems d).bind dInts with
  | some ks=>if ks.length < 4000 then some (.int ((dedupL ks).length:Nat)) else none
  | none=>none
def dSortSet (d:D):Option (List D):=match (dItems d).bind dStrs with
 | some ks=>if ks.length < 4000 then some (((dedupL ks).mergeSort leS).map D.str) else none
 | none=>match (dItems d).bind dInts with
  | some ks=>if ks.length < 4000 then some (((dedupL ks).mergeSort fun a b=>decide (a≤b)).map D.int) else none
  | none=>none
def eSortSet (M:Bool) (a:E):E:=fun ρ m=>(a ρ m).bind fun x m=>(R.of m (dSortSet (view m x))).bind fun ys m=>mkL M ys m
def sW (b:S) (vs:List Nat):S:=fun ρ m=>match b ρ m with
 | .nx ρ m=>.nx (wipeE ρ vs) m
 | .ct ρ m=>.ct (wipeE ρ vs) m
 | .bk ρ m=>.bk (wipeE ρ vs) m
 | o=>o
def putFD (f:Str) (v:D):List (Str × D)→List (Str × D)
 | []=>[(f,v)]
 | (g,x)::r=>if g=f then (g,v)::r else (g,x)::putFD f v r
def objAt (c:Str) (x:D) (m:Mem):Option (List (Str × D)):=match x with
 | .obj c' fs=>if c' = c then some fs else none
 | .loc n=>(match m[n]? with
  | some (.obj c' fs)=>if c' = c then some fs else none
  | _=>none)
 | _=>none
def eFld (c f:Str) (a:E):E:=fun ρ m=>(a ρ m).bind fun x m=>.of m ((objAt c x m).bind fun fs=>fs.lookup f)
def setFAt (c f:Str) (y x:D) (ρ:Ev) (m:Mem):O:=match x with
 | .loc n=>(match m[n]? with
  | some (.obj c' fs)=>if c' = c∧fs.length < 1000 then .nx ρ (m.set n (.obj c (putFD f y fs))) else .bad
  | _=>.bad)
 | _=>.bad
def sSetF (c f:Str) (v o:E):S:=fun ρ m=>(v ρ m).then ρ fun y m=>(o ρ m).then ρ fun x m=>setFAt c f y x ρ m
def callF (M:Bool) (f:F) (ds:List D) (m:Mem):R D:=if noLocs ds=true then (match f ds [] with
 | .ok d m'=>(match d with
  | .loc j=>(match m'[j]? with
   | some (.lst xs)=>if noLocs xs=true then mkL M xs m else .bad
   | _=>.bad)
  | d=>if noLoc d=true∧M=false then .ok d m else .bad)
 | .exc e _=>.exc e m
 | .bad=>.bad) else .bad
def eMethC (M:Bool) (c mn:Str) (n:Nat) (f:F) (o:E) (l:EL):E:=fun ρ m=>(o ρ m).bind fun x m=>match objAt c x m with
 | some fs=>if (fs.lookup mn).isNone=true then (l ρ m).bind fun ds m=>if ds.length+1=n then callF M f (x::ds) m else .bad else .bad
 | none=>.bad
def eMethW (c mn:Str) (n:Nat) (f:F) (o:E) (l:EL):E:=fun ρ m=>(o ρ m).bind fun x m=>match objAt c x m with
 | some fs=>if (fs.lookup mn).isNone=true then (l ρ m).bind fun ds m=>if ds.length+1=n then f (x::ds) m else .bad else .bad
 | none=>.bad
def newAt (c:Str) (r:R D) (m:Mem):R D:=match r with
 | .ok .non m'=>(match m'[(0:Nat)]? with
  | some (.obj c' fs)=>if c' = c∧noLocF fs=true then .ok (.obj c fs) m else .bad
  | _=>.bad)
 | .ok _ _=>.bad
 | .exc e _=>.exc e m
 | .bad=>.bad
def eNew (c:Str) (n:Nat) (f:F) (l:EL):E:=fun ρ m=>(l ρ m).bind fun ds m=>if ds.length+1=n∧noLocs ds=true then newAt c (f (.loc 0::ds) [.obj c []]) m else .bad
def mkAt (n:Nat) (r:R D):R D:=match r with
 | .ok .non m'=>.ok (.loc n) m'
 | .ok _ _=>.bad
 | .exc e m'=>.exc e m'
 | .bad=>.bad
def eMk (c:Str) (n:Nat) (f:F) (l:EL):E:=fun ρ m=>(l ρ m).bind fun ds m=>if ds.length+1=n then mkAt m.length (f (.loc m.length::ds) (m++[.obj c []])) else .bad
mutual
def locLt (n:Nat):D→Bool
 | .lst xs=>locLts n xs
 | .tup xs=>locLts n xs
 | .dct ps=>locLtP n ps
 | .obj _ fs=>locLtF n fs
 | .exc _ _=>false
 | .loc k=>decide (k < n)
 | .non=>true | .bl _=>true | .int _=>true | .str _=>true | .cls _=>true | .ty _=>true
def locLts (n:Nat):List D→Bool
 | []=>true
 | x::xs=>locLt n x && locLts n xs
def locLtP (n:Nat):List (D × D)→Bool
 | []=>true
 | (k,v)::r=>locLt n k && locLt n v && locLtP n r
def locLtF (n:Nat):List (Str × D)→Bool
 | []=>true
 | (_,v)::r=>locLt n v && locLtF n r
end
def cellLt (n:Nat):Cell→Bool
 | .lst xs=>locLts n xs
 | .dct ps=>locLtP n ps
 | .dcT ps=>locLtP n ps
 | .dcN ps=>locLtP n ps
 | .dcF ps=>locLtP n ps
 | .obj _ fs=>locLtF n fs
 | .dead=>true
 | .fn _=>true
def gcM (n:Nat) (m:Mem):Option Mem:=if (m.take n).all (cellLt n)=true then some (m.take n) else none
def gcR (n:Nat) (r:R D):R D:=match r with
 | .ok d m=>(match gcM n m with
  | some m=>if locLt n d=true then .ok d m else .bad
  | none=>.bad)
 | .exc e m=>(match gcM n m with
  | some m=>.exc e m
  | none=>.bad)
 | .bad=>.bad
def eGc (k:Nat) (a:E):E:=fun ρ m=>gcR (m.length+k) (a ρ m)
def lendD (b:Bool) (m:Mem):Option D→Option D
 | some (.loc n)=>if b=true then (match m[n]? with
  | some (.lst xs)=>if noLocs xs=true then some (.lst xs) else none
  | _=>none) else none
 | o=>hide o
def lendE (is:List Nat) (m:Mem) (ρ:Ev):Ev:=ρ.mapIdx fun i o=>lendD (decide (i∈is)) m o
def lendR (m:Mem):R D→R D
 | .ok d _=>if flatB d=true then .ok d m else .bad
 | .exc e _=>.exc e m
 | .bad=>.bad
def eLendS (is:List Nat) (f:E):E:=fun ρ m=>lendR m (f (lendE is m ρ) [])
def keyA:D→Bool
 | .int _=>true
 | .str _=>true
 | _=>false
def keyT:D→Bool
 | .tup xs=>xs.all keyA
 | _=>false
mutual
def keyD:D→Bool
 | .int _=>true
 | .str _=>true
 | .tup xs=>keyDs xs
 | .non=>false | .bl _=>false | .lst _=>false | .dct _=>false | .obj _ _=>false | .exc _ _=>false | .cls _=>false | .ty _=>false | .loc _=>false
def keyDs:List D→Bool
 | []=>true
 | x::xs=>keyD x && keyDs xs
end
mutual
def keyH:D→Nat
 | .tup xs=>keyHs xs+1
 | .int _=>0 | .str _=>0 | .non=>0 | .bl _=>0 | .lst _=>0 | .dct _=>0 | .obj _ _=>0 | .exc _ _=>0 | .cls _=>0 | .ty _=>0 | .loc _=>0
def keyHs:List D→Nat
 | []=>0
 | x::xs=>max (keyH x) (keyHs xs)
end
def keyN:D→Bool
 | .tup xs=>keyDs xs && decide (keyHs xs+1≤8)
 | _=>false
def getP (ps:List (D × D)) (k:D):Option D:=(ps.find? fun p=>eqvD p.1 k).map (·.2)
def putP (ps:List (D × D)) (k v:D):List (D × D):=if (ps.any fun p=>eqvD p.1 k)=true then ps.map (fun p=>if eqvD p.1 k=true then (p.1,v) else p) else ps++[(k,v)]
def dctAt (x k:D) (m:Mem):Option (List (D × D)):=match x with
 | .loc n=>(match m[n]? with
  | some (.dct ps)=>if keyA k=true then some ps else none
  | some (.dcT ps)=>if keyT k=true then some ps else none
  | _=>none)
 | _=>none
def tInP (neg:Bool) (a b:E):ET:=fun ρ m=>(a ρ m).bind fun k m=>(b ρ m).bind fun x m=>.of m ((dctAt x k m).map fun ps=>(getP ps k).isSome != neg)
def eInP (neg:Bool) (a b:E):E:=fun ρ m=>(a ρ m).bind fun k m=>(b ρ m).bind fun x m=>.of m ((dctAt x k m).map fun ps=>D.bl ((getP ps k).isSome != neg))
def eGetP (o i:E):E:=fun ρ m=>(o ρ m).bind fun x m=>(i ρ m).bind fun k m=>.of m ((dctAt x k m).bind fun ps=>getP ps k)
def putAt (x k v:D) (ρ:Ev) (m:Mem):O:=match x with
 | .loc n=>(match m[n]? with
  | some (.dct ps)=>if keyA k=true∧ps.length < LN then .nx ρ (m.set n (.dct (putP ps k v))) else .bad
  | some (.dcT ps)=>if keyT k=true∧ps.length < LN then .nx ρ (m.set n (.dcT (putP ps k v))) else .bad
  | _=>.bad)
 | _=>.bad
def sPutP (v o i:E):S:=fun ρ m=>(v ρ m).then ρ fun y m=>(o ρ m).then ρ fun x m=>(i ρ m).then ρ fun k m=>putAt x k y ρ m
def eDctM (T:Bool):E:=fun _ m=>.ok (.loc m.length) (m++[if T=true then .dcT [] else .dct []])
def dcnAt (x k:D) (m:Mem):Option (List (D × D)):=match x with
 | .loc n=>(match m[n]? with
  | some (.dcN ps)=>if keyN k=true then some ps else none
  | some (.dcF ps)=>if keyN k=true then some ps else none
  | _=>none)
 | _=>none
def tInN (neg:Bool) (a b:E):ET:=fun ρ m=>(a ρ m).bind fun k m=>(b ρ m).bind fun x m=>.of m ((dcnAt x k m).map fun ps=>(getP ps k).isSome != neg)
def eGetN (o i:E):E:=fun ρ m=>(o ρ m).bind fun x m=>(i ρ m).bind fun k m=>.of m ((dcnAt x k m).bind fun ps=>getP ps k)
def putN (x k v:D) (ρ:Ev) (m:Mem):O:=match x with
 | .loc n=>(match m[n]? with
  | some (.dcN ps)=>if keyN k=true∧ps.length < LN then .nx ρ (m.set n (.dcN (putP ps k v))) else .bad
  | _=>.bad)
 | _=>.bad
def sPutN (v o i:E):S:=fun ρ m=>(v ρ m).then ρ fun y m=>(o ρ m).then ρ fun x m=>(i ρ m).then ρ fun k m=>putN x k y ρ m
def eDctN:E:=fun _ m=>.ok (.loc m.length) (m++[.dcN []])
def popAt (x:D) (m:Mem):R D:=match x with
 | .loc n=>(match m[n]? with
  | some (.lst xs)=>(match xs.getLast? with
   | some y=>.ok y (m.set n (.lst xs.dropLast))
   | none=>.bad)
  | _=>.bad)
 | _=>.bad
def ePop (a:E):E:=fun ρ m=>(a ρ m).bind fun x m=>if tyIs "list" (view m x)=some true then popAt x m else .bad
def ltL:List Int→List Int→Bool
 | [],[]=>false
 | [],_::_=>true
 | _::_,[]=>false
 | x::xs,y::ys=>if x=y then ltL xs ys else decide (x < y)
end TT

set_option maxHeartbeats 2000000
namespace TT
open PySem PySem.Spec PyProof.Rows L2

abbrev XO:=Option (Addr × Value × Option Addr)
structure Ct where
 K:PySem.W.Frag
 mg:Str→Option Value
 w:World
 xo:XO
 B:Hp
 G0:Hp
 W:WX

def flatD:D→Option V
 | .non=>some .non
 | .bl b=>some (.bl b)
 | .int i=>some (.int i)
 | .str s=>some (.str s)
 | _=>none
def FlatF:List (Str × D)→List (Str × V)→Prop:=Paired fun p q=>p.1=q.1∧flatD p.2=some q.2
def ExcAt (mg:Str→Option Value) (e:D) (cc:Value) (dd:Option Addr) (H:Hp):Prop:=match e with
 | .exc c fs=>∃ C,mg c=some (.ref C)∧cc = .ref C∧((fs=[]∧dd=none)∨(fs≠[]∧∃ d fv,dd=some d∧H d=some (.xd fv)∧FlatF fs fv))
 | _=>False

section
variable (K:PySem.W.Frag) (mg:Str→Option Value) (xo:XO) (G:Hp) (μ:List Addr)
mutual
inductive Rep:D→V→Prop
 | non:Rep .non .non
 | bl (b:Bool):Rep (.bl b) (.bl b)
 | int (i:Int):Rep (.int i) (.int i)
 | str (s:Str) (h:okS s=true):Rep (.str s) (.str s)
 | ty (n:String):Rep (.ty n) (.ty n)
 | cls {c:Str} {C:Addr}:mg c=some (.ref C)→Rep (.cls c) (.ref C)
 | lst {a:Addr} {vs:List V} {ds:List D}:SqL K G a vs→RepL ds vs→Rep (.lst ds) (.ref a)
 | tup {a:Addr} {vs:List V} {ds:List D}:G a=some (.tup vs)→RepL ds vs→Rep (.tup ds) (.ref a)
 | dct {a:Addr} {kvs:List (Key × V)} {ps:List (D × D)}:G a=some (.dK kvs)→RepP ps kvs→Rep (.dct ps) (.ref a)
 | obj {a C dx:Addr} {fv:List (Str × V)} {c:Str} {fs:List (Str × D)}:mg c=some (.ref C)→G a=some (.ins C dx fv)→G dx=some (.own a)→RepF fs fv→Rep (.obj c fs) (.ref a)
 | exc {a:Addr} {cc:Value} {dd:Option Addr} {c:Str} {fs:List (Str × D)}:xo=some (a,cc,dd)→ExcAt mg (.exc c fs) cc dd G→Rep (.exc c fs) (.ref a)
 | loc {n:Nat} {a:Addr}:μ[n]? = some a→Rep (.loc n) (.ref a)
inductive RepL:List D→List V→Prop
 | nil:RepL [] []
 | cons {d:D} {v:V} {ds:List D} {vs:List V}:Rep d v→RepL ds vs→RepL (d::ds) (v::vs)
inductive RepP:List (D × D)→List (Key × V)→Prop
 | nil:RepP [] []
 | int {i:Int} {d:D} {v:V} {ps:List (D × D)} {kvs:List (Key × V)}:Rep d v→RepP ps kvs→RepP ((.int i,d)::ps) ((.inl i,v)::kvs)
 | str {s:Str} {d:D} {v:V} {ps:List (D × D)} {kvs:List (Key × V)}:okS s=true→Rep d v→RepP ps kvs→RepP ((.str s,d)::ps) ((.inr s,v)::kvs)
inductive RepF:List (Str × D)→List (Str × V)→Prop
 | nil:RepF [] []
 | cons {f:Str} {d:D} {v:V} {fs:List (Str × D)} {fv:List (Str × V)}:Rep d v→RepF fs fv→RepF ((f,d)::fs) ((f,v)::fv)
end
end

section
variable {K:PySem.W.Frag} {mg:Str→Option Value} {xo xo' : XO} {G G' : Hp} {μ μ' : List Addr}
theorem Same.tupS {K:PySem.W.Frag} {H H' : Hp} {a:Addr} {xs:List V} (e:Same H H') (h:SqT K H a xs):SqT K H' a xs:=by
 rcases h with (h | ⟨o,h⟩) | h
 ·exact .inl (.inl (e _ _ h))
 ·exact .inl (.inr ⟨o,e _ _ h⟩)
 ·exact .inr h
theorem ExcAt.mono {e:D} {cc:Value} {dd:Option Addr} {H H' : Hp} (s:Same H H') (h:ExcAt mg e cc dd H):ExcAt mg e cc dd H':=by
 cases e with
 | exc c fs=>
  obtain ⟨C,h1,h2,h3⟩:=h
  refine ⟨C,h1,h2,?_⟩
  rcases h3 with h3 | ⟨h0,d,fv,h3,h4,h5⟩
  ·exact .inl h3
  ·exact .inr ⟨h0,d,fv,h3,s _ _ h4,h5⟩
 | _=>exact h.elim
theorem qdF {μ μ' : List Addr} (p:μ <+: μ') {n:Nat} {a:Addr} (h:μ[n]? = some a):μ'[n]? = some a:=by
 obtain ⟨t,rfl⟩:=p
 rw [waq (waj.mp h).1]
 exact h
mutual
theorem Rep.mono (s:Same G G') (p:μ <+: μ') (hx:xo=none∨xo=xo'):∀ {d:D} {v:V},Rep K mg xo G μ d v→Rep K mg xo' G' μ' d v
 | _,_,.non=>.non
 | _,_,.bl b=>.bl b
 | _,_,.int i=>.int i
 | _,_,.str x h=>.str x h
 | _,_,.ty n=>.ty n
 | _,_,.cls h=>.cls h
 | _,_,.lst h t=>.lst (s.seq h) (RepL.mono s p hx t)
 | _,_,.tup h t=>.tup (s _ _ h) (RepL.mono s p hx t)
 | _,_,.dct h t=>.dct (s _ _ h) (RepP.mono s p hx t)
 | _,_,.obj h1 h2 h3 t=>.obj h1 (s _ _ h2) (s _ _ h3) (RepF.mono s p hx t)
 | _,_,.exc h1 h2=>by
  rcases hx with e | e
  ·rw [e] at h1
   cases h1
  ·exact .exc (e ▸ h1) (h2.mono s)
 | _,_,.loc h=>.loc (qdF p h)
theorem RepL.mono (s:Same G G') (p:μ <+: μ') (hx:xo=none∨xo=xo'):∀ {d:List D} {v:List V},RepL K mg xo G μ d v→RepL K mg xo' G' μ' d v
 | _,_,.nil=>.nil
 | _,_,.cons h t=>.cons (Rep.mono s p hx h) (RepL.mono s p hx t)
theorem RepP.mono (s:Same G G') (p:μ <+: μ') (hx:xo=none∨xo=xo'):∀ {d:List (D × D)} {v:List (Key × V)},RepP K mg xo G μ d v→RepP K mg xo' G' μ' d v
 | _,_,.nil=>.nil
 | _,_,.int h t=>.int (Rep.mono s p hx h) (RepP.mono s p hx t)
 | _,_,.str o h t=>.str o (Rep.mono s p hx h) (RepP.mono s p hx t)
theorem RepF.mono (s:Same G G') (p:μ <+: μ') (hx:xo=none∨xo=xo'):∀ {d:List (Str × D)} {v:List (Str × V)},RepF K mg xo G μ d v→RepF K mg xo' G' μ' d v
 | _,_,.nil=>.nil
 | _,_,.cons h t=>.cons (Rep.mono s p hx h) (RepF.mono s p hx t)
end
mutual
theorem Rep.off:∀ {d:D} {v:V},noLoc d=true→Rep K mg xo G μ d v→Rep K mg xo G μ' d v
 | _,_,_,.non=>.non
 | _,_,_,.bl b=>.bl b
 | _,_,_,.int i=>.int i
 | _,_,_,.str x h=>.str x h
 | _,_,_,.ty n=>.ty n
 | _,_,_,.cls h=>.cls h
 | _,_,n,.lst h t=>.lst h (RepL.off (by simpa [noLoc] using n) t)
 | _,_,n,.tup h t=>.tup h (RepL.off (by simpa [noLoc] using n) t)
 | _,_,n,.dct h t=>.dct h (RepP.off (by simpa [noLoc] using n) t)
 | _,_,n,.obj h1 h2 h3 t=>.obj h1 h2 h3 (RepF.off (by simpa [noLoc] using n) t)
 | _,_,_,.exc h1 h2=>.exc h1 h2
 | _,_,n,.loc h=>by simp [noLoc] at n
theorem RepL.off:∀ {d:List D} {v:List V},noLocs d=true→RepL K mg xo G μ d v→RepL K mg xo G μ' d v
 | _,_,_,.nil=>.nil
 | _,_,n,.cons h t=>by
  simp only [noLocs,wac] at n
  exact .cons (Rep.off n.1 h) (RepL.off n.2 t)
theorem RepP.off:∀ {d:List (D × D)} {v:List (Key × V)},noLocP d=true→RepP K mg xo G μ d v→RepP K mg xo G μ' d v
 | _,_,_,.nil=>.nil
 | _,_,n,.int h t=>by
  simp only [noLocP,noLoc,wac] at n
  exact .int (Rep.off n.1.2 h) (RepP.off n.2 t)
 | _,_,n,.str o h t=>by
  simp only [noLocP,noLoc,wac] at n
  exact .str o (Rep.off n.1.2 h) (RepP.off n.2 t)
theorem RepF.off:∀ {d:List (Str × D)} {v:List (Str × V)},noLocF d=true→RepF K mg xo G μ d v→RepF K mg xo G μ' d v
 | _,_,_,.nil=>.nil
 | _,_,n,.cons h t=>by
  simp only [noLocF,wac] at n
  exact .cons (Rep.off n.1 h) (RepF.off n.2 t)
end
theorem RepL.length:∀ {d:List D} {v:List V},RepL K mg xo G μ d v→d.length=v.length
 | _,_,.nil=>rfl
 | _,_,.cons _ t=>by rw [wab,wab,RepL.length t]
theorem RepL.get:∀ {ds:List D} {vs:List V} {i:Nat} {d:D},RepL K mg xo G μ ds vs→ds[i]? = some d→∃ v,vs[i]? = some v∧Rep K mg xo G μ d v
 | _,_,_,_,.nil,e=>by simp at e
 | _,_,0,_,.cons r _,e=>by simp at e; subst e; exact ⟨_,rfl,r⟩
 | _,_,i+1,_,.cons _ t,e=>by
  obtain ⟨v,h1,h2⟩:=RepL.get (i:=i) t (by simpa using e)
  exact ⟨v,by simpa using h1,h2⟩
theorem RepL.getV:∀ {ds:List D} {vs:List V} {i:Nat} {v:V},RepL K mg xo G μ ds vs→vs[i]? = some v→∃ d,ds[i]? = some d∧Rep K mg xo G μ d v
 | _,_,_,_,.nil,e=>by simp at e
 | _,_,0,_,.cons r _,e=>by simp at e; subst e; exact ⟨_,rfl,r⟩
 | _,_,i+1,_,.cons _ t,e=>by
  obtain ⟨v,h1,h2⟩:=RepL.getV (i:=i) t (by simpa using e)
  exact ⟨v,by simpa using h1,h2⟩
theorem RepL.append:∀ {ds es:List D} {vs ws:List V},RepL K mg xo G μ ds vs→RepL K mg xo G μ es ws→RepL K mg xo G μ (ds++es) (vs++ws)
 | _,_,_,_,.nil,s=>s
 | _,_,_,_,.cons r t,s=>.cons r (RepL.append t s)
theorem RepL.take:∀ {ds:List D} {vs:List V} (n:Nat),RepL K mg xo G μ ds vs→RepL K mg xo G μ (ds.take n) (vs.take n)
 | _,_,0,_=>.nil
 | _,_,_+1,.nil=>.nil
 | _,_,n+1,.cons r t=>.cons r (RepL.take n t)
theorem RepL.drop:∀ {ds:List D} {vs:List V} (n:Nat),RepL K mg xo G μ ds vs→RepL K mg xo G μ (ds.drop n) (vs.drop n)
 | _,_,0,r=>r
 | _,_,_+1,.nil=>.nil
 | _,_,n+1,.cons _ t=>RepL.drop n t
theorem RepL.reverse {ds:List D} {vs:List V} (h:RepL K mg xo G μ ds vs):RepL K mg xo G μ ds.reverse vs.reverse:=by
 induction ds generalizing vs with
 | nil=>cases h; exact .nil
 | cons d ds ih=>
  cases h with
  | cons r t=>
   rw [List.reverse_cons,List.reverse_cons]
   exact (ih t).append (.cons r .nil)
theorem RepL.set:∀ {ds:List D} {vs:List V} {d:D} {v:V} (i:Nat),RepL K mg xo G μ ds vs→Rep K mg xo G μ d v→RepL K mg xo G μ (ds.set i d) (vs.set i v)
 | _,_,_,_,_,.nil,_=>.nil
 | _,_,_,_,0,.cons _ t,r=>.cons r t
 | _,_,_,_,i+1,.cons q t,r=>.cons q (RepL.set i t r)
theorem RepL.dropLast {ds:List D} {vs:List V} (h:RepL K mg xo G μ ds vs):RepL K mg xo G μ ds.dropLast vs.dropLast:=by
 rw [List.dropLast_eq_take,List.dropLast_eq_take,h.length]
 exact h.take _
theorem RepL.map {α:Type} (f:α→D) (g:α→V) (hr:∀ x,Rep K mg xo G μ (f x) (g x)):∀ xs:List α,RepL K mg xo G μ (xs.map f) (xs.map g)
 | []=>.nil
 | x::xs=>.cons (hr x) (RepL.map f g hr xs)
end

inductive KeyA:D→Key→Prop
 | int (i:Int):KeyA (.int i) (.inl i)
 | str (s:Str) (h:okS s=true):KeyA (.str s) (.inr s)
inductive KeyL:List D→List Key→Prop
 | nil:KeyL [] []
 | cons {d:D} {k:Key} {ds:List D} {ks:List Key}:KeyA d k→KeyL ds ks→KeyL (d::ds) (k::ks)
inductive RepT (K:PySem.W.Frag) (mg:Str→Option Value) (xo:XO) (G:Hp) (μ:List Addr):List (D × D)→List (List Key × V)→Prop
 | nil:RepT K mg xo G μ [] []
 | cons {ks:List D} {k:List Key} {d:D} {v:V} {ps:List (D × D)} {kvs:List (List Key × V)}:KeyL ks k→Rep K mg xo G μ d v→RepT K mg xo G μ ps kvs→RepT K mg xo G μ ((.tup ks,d)::ps) ((k,v)::kvs)
theorem KeyL.nl:∀ {ds:List D} {ks:List Key},KeyL ds ks→noLocs ds=true
 | _,_,.nil=>rfl
 | _,_,.cons h t=>by
  simp only [noLocs,KeyL.nl t,Bool.and_true]
  cases h <;> rfl
theorem RepT.mono {K:PySem.W.Frag} {mg:Str→Option Value} {xo xo' : XO} {G G' : Hp} {μ μ' : List Addr} (s:Same G G') (p:μ <+: μ') (hx:xo=none∨xo=xo'):∀ {d:List (D × D)} {v:List (List Key × V)},RepT K mg xo G μ d v→RepT K mg xo' G' μ' d v
 | _,_,.nil=>.nil
 | _,_,.cons h r t=>.cons h (Rep.mono s p hx r) (RepT.mono s p hx t)
theorem RepT.off {K:PySem.W.Frag} {mg:Str→Option Value} {xo:XO} {G:Hp} {μ μ' : List Addr}:∀ {d:List (D × D)} {v:List (List Key × V)},noLocP d=true→RepT K mg xo G μ d v→RepT K mg xo G μ' d v
 | _,_,_,.nil=>.nil
 | _,_,n,.cons h r t=>by
  simp only [noLocP,wac] at n
  exact .cons h (Rep.off n.1.2 r) (RepT.off n.2 t)
mutual
def nkey:D→NestedKey
 | .int i=>.num i
 | .str s=>.text s
 | .tup xs=>.tup (nkeys xs)
 | .non=>.none | .bl _=>.none | .lst _=>.none | .dct _=>.none | .obj _ _=>.none | .exc _ _=>.none | .cls _=>.none | .ty _=>.none | .loc _=>.none
def nkeys:List D→List NestedKey
 | []=>[]
 | x::xs=>nkey x::nkeys xs
end
inductive RepN (K:PySem.W.Frag) (mg:Str→Option Value) (xo:XO) (G:Hp) (μ:List Addr):List (D × D)→List (NestedKey × Addr × Value)→Prop
 | nil:RepN K mg xo G μ [] []
 | cons {d e:D} {b:Addr} {v:V} {u:Value} {ps:List (D × D)} {xs:List (NestedKey × Addr × Value)}:keyN d=true→Rep K mg xo G μ d (.ref b)→Rep K mg xo G μ e v→RelV v u→RepN K mg xo G μ ps xs→RepN K mg xo G μ ((d,e)::ps) ((nkey d,b,u)::xs)
theorem RepN.mono {K:PySem.W.Frag} {mg:Str→Option Value} {xo xo' : XO} {G G' : Hp} {μ μ' : List Addr} (s:Same G G') (p:μ <+: μ') (hx:xo=none∨xo=xo'):∀ {d:List (D × D)} {v:List (NestedKey × Addr × Value)},RepN K mg xo G μ d v→RepN K mg xo' G' μ' d v
 | _,_,.nil=>.nil
 | _,_,.cons h q r l t=>.cons h (Rep.mono s p hx q) (Rep.mono s p hx r) l (RepN.mono s p hx t)
def dnO (w:World) (a:Addr) (xs:List (NestedKey × Addr × Value)):HO:=.ext fun h=>(∃ o es ep,h.get? a=some o∧o.ExactDict∧o.data = .dict es ep∧es.toList=xs.map (fun x=>(⟨x.1.hash w,.ref x.2.1,x.2.2⟩:DictEntry)))∧(xs.map (·.1)).Nodup∧xs.length≤sizeLine∧(a == sysModules)=false
def dnF (w:World) (a:Addr) (xs:List (NestedKey × Addr × Value)) (ep:Nat):HO:=.ext fun h=>(∃ o es,h.get? a=some o∧o.ExactDict∧o.data = .dict es ep∧es.toList=xs.map (fun x=>(⟨x.1.hash w,.ref x.2.1,x.2.2⟩:DictEntry)))∧(xs.map (·.1)).Nodup∧xs.length≤sizeLine∧(a == sysModules)=false
class TabI where
 T:List (Addr × Str)
variable [TabI]
def IsTab [TabI] (b:Addr):Prop:=∃ p∈TabI.T,p.1=b
open Classical in
noncomputable def hid [TabI] (H:Hp):Hp:=fun b=>if IsTab b then none else H b
theorem qcH {H:Hp} {b:Addr} {o:HO} (h:hid H b=some o):H b=some o∧¬ IsTab b:=by
 unfold hid at h
 split at h
 ·cases h
 ·exact ⟨h,by assumption⟩
theorem qdo {H:Hp} {b:Addr} (h:¬ IsTab b):hid H b=H b:=if_neg h
theorem qbR {H:Hp}:Same (hid H) H:=fun b o e=>(qcH e).1
theorem qcI {H:Hp} {b:Addr} (h:H b=none):hid H b=none:=by
 unfold hid
 split
 ·rfl
 ·exact h
structure TabOk (G B:Hp) (μ:List Addr) (H:Hp) (p:Addr × Str):Prop where
 g:G p.1=none
 b:B p.1=none
 m:p.1∉μ
 t:∃ ps:Array Value,H p.1=some (.tbl ps)∧TriplesOk ps.toList∧∀ (pos:Pos) (cv:Value),codeAmong pos ps.toList=some cv→∃ a,cv = .ref a∧G a=some (LamX.CodeO a p.2)
section
variable {G G' B B' H H' : Hp} {μ μ' : List Addr} {p:Addr × Str}
theorem TabOk.ne (h:TabOk G B μ H p) {a:Addr} {o:HO} (e:H a=some o) (n:∀ ps,o≠.tbl ps):p.1≠a:=fun z=>by
 obtain ⟨ps,h1,_⟩:=h.t
 rw [z,e] at h1
 exact n ps (Option.some.inj h1)
theorem TabOk.ne0 (h:TabOk G B μ H p) {a:Addr} (e:H a=none):p.1≠a:=fun z=>by
 obtain ⟨ps,h1,_⟩:=h.t
 rw [z,e] at h1
 cases h1
theorem TabOk.up (h:TabOk G B μ H p) (s:Same G G') (g:G' p.1=none) (b:B' p.1=none) (m:p.1∉μ') (e:H' p.1=H p.1):TabOk G' B' μ' H' p:=
 ⟨g,b,m,let ⟨ps,h1,h2,h3⟩:=h.t; ⟨ps,e.trans h1,h2,fun pos cv hc=>let ⟨a,e1,e2⟩:=h3 pos cv hc; ⟨a,e1,s _ _ e2⟩⟩⟩
theorem TabOk.at_ (h:TabOk G B μ H p) {a:Addr} {o u:HO} (e:H a=some o) (n:∀ ps,o≠.tbl ps):upd H a u p.1=H p.1:=upd_ne (h.ne e n)
end
theorem qcV {G B H:Hp} {μ:List Addr} (h:∀ p∈TabI.T,TabOk G B μ H p) {a:Addr} {o:HO} (e:H a=some o) (n:∀ ps,o≠.tbl ps):¬ IsTab a:=fun ⟨p,hp,q⟩=>(h p hp).ne e n q
theorem qcJ {G B H:Hp} {μ:List Addr} (h:∀ p∈TabI.T,TabOk G B μ H p) {a:Addr} (e:a∈μ):¬ IsTab a:=fun ⟨p,hp,q⟩=>(h p hp).m (q ▸ e)
theorem qfj {G B H:Hp} {μ:List Addr} (h:∀ p∈TabI.T,TabOk G B μ H p) {a:Addr} {o:HO} (e:B a=some o):¬ IsTab a:=fun ⟨p,hp,q⟩=>by
 have z:=(h p hp).b
 rw [q,e] at z
 cases z
def CellOk (c:Ct) (G:Hp) (μ:List Addr) (H:Hp) (a:Addr):Cell→Prop
 | .dead=>True
 | .fn k=>(∃ φ,H a=some (.ext φ))∧∃ (f:Addr) (v:Value) (g:Option Addr),c.xo=some (f,v,g)∧(k=true→a=f)∧(k=false→g=some a)
 | .lst xs=>G a=none∧c.B a=none∧∃ vs,H a=some (.lst vs)∧RepL c.K c.mg c.xo G μ xs vs
 | .dct ps=>G a=none∧c.B a=none∧∃ kvs,H a=some (.dK kvs)∧RepP c.K c.mg c.xo G μ ps kvs
 | .dcT ps=>G a=none∧c.B a=none∧∃ kvs,H a=some (.dT kvs)∧RepT c.K c.mg c.xo G μ ps kvs
 | .dcN ps=>G a=none∧c.B a=none∧∃ xs,H a=some (dnO c.w a xs)∧RepN c.K c.mg c.xo G μ ps xs
 | .dcF ps=>∃ xs ep,G a=some (dnF c.w a xs ep)∧RepN c.K c.mg c.xo G μ ps xs
 | .obj n fs=>G a=none∧c.B a=none∧∃ C dx fv,c.mg n=some (.ref C)∧H a=some (.ins C dx fv)∧H dx=some (.own a)∧G dx=none∧c.B dx=none∧RepF c.K c.mg c.xo G μ fs fv
structure MemOk (c:Ct) (G:Hp) (μ:List Addr) (m:Mem) (H:Hp):Prop where
 gh:Same G H
 bh:Same c.B H
 g0:Same c.G0 G
 gb:∀ a o,c.B a=some o→c.G0 a=none→G a=none
 ml:μ.length=m.length
 nd:μ.Nodup
 cell:∀ (n:Nat) (a:Addr) (k:Cell),μ[n]? = some a→m[n]? = some k→CellOk c G μ H a k
 used:∀ a∈μ,H a≠none
 mb:∀ a∈μ,c.B a=none
 tb:∀ p∈TabI.T,TabOk G c.B μ H p
structure Sim (c:Ct) (G:Hp) (μ:List Addr) (ρ:Ev) (m:Mem) (σ:L2.St) (H:Hp):Prop where
 mem:MemOk c G μ m H
 env:∀ (i:Nat) (d:D),ρ[i]? = some (some d)→∃ v,σ[i]? = some (some v)∧Rep c.K c.mg c.xo G μ d v
 len:ρ.length=σ.length
structure Gr (G:Hp) (μ:List Addr) (G' : Hp) (μ' : List Addr):Prop where
 g:Same G G'
 m:μ <+: μ'
theorem Gr.refl {G:Hp} {μ:List Addr}:Gr G μ G μ:=⟨Same.refl _,wai _⟩
theorem Gr.trans {G G1 G2:Hp} {μ μ1 μ2:List Addr} (a:Gr G μ G1 μ1) (b:Gr G1 μ1 G2 μ2):Gr G μ G2 μ2:=⟨a.g.trans b.g,a.m.trans b.m⟩
theorem Rep.gr {K:PySem.W.Frag} {mg:Str→Option Value} {xo:XO} {G G' : Hp} {μ μ' : List Addr} {d:D} {v:V} (h:Rep K mg xo G μ d v) (g:Gr G μ G' μ'):Rep K mg xo G' μ' d v:=Rep.mono g.g g.m (.inr rfl) h
theorem RepL.gr {K:PySem.W.Frag} {mg:Str→Option Value} {xo:XO} {G G' : Hp} {μ μ' : List Addr} {d:List D} {v:List V} (h:RepL K mg xo G μ d v) (g:Gr G μ G' μ'):RepL K mg xo G' μ' d v:=RepL.mono g.g g.m (.inr rfl) h

section
variable {c:Ct} {G G' : Hp} {μ μ' : List Addr} {ρ ρ' : Ev} {m m' : Mem} {σ σ' : L2.St} {H H' : Hp}
theorem MemOk.fresh (h:MemOk c G μ m H) {p:Addr} (hp:H p=none):G p=none∧c.B p=none∧p∉μ:=by
 refine ⟨h.gh.free hp,h.bh.free hp,fun q=>h.used p q hp⟩
theorem CellOk.mono {a:Addr} {k:Cell} (g:Gr G μ G' μ') (hg:G a=none→G' a=none) (hd:∀ b,H b=some (.own a)→G b=none→G' b=none) (hH:∀ b o,(b=a∨o = .own a)→H b=some o→H' b=some o) (h:CellOk c G μ H a k):CellOk c G' μ' H' a k:=by
 cases k with
 | dead=>trivial
 | fn k=>exact ⟨let ⟨o,e⟩:=h.1; ⟨o,hH _ _ (.inl rfl) e⟩,h.2⟩
 | lst xs=>
  obtain ⟨h1,h2,vs,h3,h4⟩:=h
  exact ⟨hg h1,h2,vs,hH _ _ (.inl rfl) h3,h4.gr g⟩
 | dct ps=>
  obtain ⟨h1,h2,vs,h3,h4⟩:=h
  exact ⟨hg h1,h2,vs,hH _ _ (.inl rfl) h3,RepP.mono g.g g.m (.inr rfl) h4⟩
 | dcT ps=>
  obtain ⟨h1,h2,vs,h3,h4⟩:=h
  exact ⟨hg h1,h2,vs,hH _ _ (.inl rfl) h3,RepT.mono g.g g.m (.inr rfl) h4⟩
 | dcN ps=>
  obtain ⟨h1,h2,vs,h3,h4⟩:=h
  exact ⟨hg h1,h2,vs,hH _ _ (.inl rfl) h3,RepN.mono g.g g.m (.inr rfl) h4⟩
 | dcF ps=>
  obtain ⟨xs,ep,h3,h4⟩:=h
  exact ⟨xs,ep,g.g _ _ h3,RepN.mono g.g g.m (.inr rfl) h4⟩
 | obj n fs=>
  obtain ⟨h1,h2,C,dx,fv,e,h3,h4,h5,h6,h7⟩:=h
  exact ⟨hg h1,h2,C,dx,fv,e,hH _ _ (.inl rfl) h3,hH _ _ (.inr rfl) h4,hd dx h4 h5,h6,RepF.mono g.g g.m (.inr rfl) h7⟩
theorem MemOk.alloc (h:MemOk c G μ m H) {p:Addr} (hp:H p=none) (o:HO):MemOk c (upd G p o) μ m (upd H p o)∧Gr G μ (upd G p o) μ:=by
 obtain ⟨gp,bp,mp⟩:=h.fresh hp
 have g:Gr G μ (upd G p o) μ:=⟨fun b u e=>by rw [upd_ne (ne_of_none e gp)]; exact e,wai _⟩
 refine ⟨⟨fun b u e=>?_,fun b u e=>by rw [upd_ne (ne_of_none e bp)]; exact h.bh _ _ e,h.g0.trans g.g,fun a u e1 e2=>?_,h.ml,h.nd,fun n a k e1 e2=>?_,fun a ha=>?_,h.mb,fun q hq=>(h.tb q hq).up g.g (by rw [upd_ne ((h.tb q hq).ne0 hp)]; exact (h.tb q hq).g) (h.tb q hq).b (h.tb q hq).m (upd_ne ((h.tb q hq).ne0 hp))⟩,g⟩
 ·by_cases hb:b=p
  ·subst hb
   rw [upd_same] at e ⊢
   exact e
  ·rw [upd_ne hb] at e ⊢
   exact h.gh _ _ e
 ·rw [upd_ne (ne_of_none e1 bp)]
  exact h.gb a u e1 e2
 ·have na:a≠p:=fun q=>mp (q ▸ waf e1)
  refine CellOk.mono g (fun q=>by rw [upd_ne na]; exact q) (fun b e q=>by rw [upd_ne (ne_of_none e hp)]; exact q) (fun b u _ e=>by rw [upd_ne (ne_of_none e hp)]; exact e) (h.cell n a k e1 e2)
 ·by_cases hb:a=p
  ·subst hb
   exact absurd ha mp
  ·rw [upd_ne hb]
   exact h.used a ha
theorem Sim.gr (S:Sim c G μ ρ m σ H) (hm:MemOk c G' μ' m' H') (g:Gr G μ G' μ'):Sim c G' μ' ρ m' σ H':=
 ⟨hm,fun i d e=>let ⟨v,h1,h2⟩:=S.env i d e; ⟨v,h1,h2.gr g⟩,S.len⟩
theorem Sim.alloc (S:Sim c G μ ρ m σ H) {p:Addr} (hp:H p=none) (o:HO):Sim c (upd G p o) μ ρ m σ (upd H p o)∧Gr G μ (upd G p o) μ:=
 let ⟨a,b⟩:=S.mem.alloc hp o
 ⟨S.gr a b,b⟩
theorem MemOk.allocM (h:MemOk c G μ m H) {p:Addr} (hp:H p=none) {xs:List D} {vs:List V} (hr:RepL c.K c.mg c.xo G μ xs vs) :
  MemOk c G (μ++[p]) (m++[.lst xs]) (upd H p (.lst vs))∧Gr G μ G (μ++[p]):=by
 obtain ⟨gp,bp,mp⟩:=h.fresh hp
 have g:Gr G μ G (μ++[p]):=⟨Same.refl _,List.prefix_append _ _⟩
 refine ⟨⟨fun b u e=>by rw [upd_ne (ne_of_none e gp)]; exact h.gh _ _ e,fun b u e=>by rw [upd_ne (ne_of_none e bp)]; exact h.bh _ _ e,h.g0,h.gb,by simp [h.ml],?_,fun n a k e1 e2=>?_,fun a ha=>?_,fun a ha=>?_,fun q hq=>(h.tb q hq).up g.g (h.tb q hq).g (h.tb q hq).b (fun z=>(wau.mp z).elim (h.tb q hq).m (fun z=>(h.tb q hq).ne0 hp (by simpa using z))) (upd_ne ((h.tb q hq).ne0 hp))⟩,g⟩
 ·rw [wbx]
  exact ⟨h.nd,by simp,fun a ha b hb=>by
   have:b=p:=by simpa using hb
   subst this
   exact fun q=>mp (q ▸ ha)⟩
 ·by_cases hn:n < μ.length
  ·rw [waq hn] at e1
   rw [waq (by rw [← h.ml]; exact hn)] at e2
   have na:a≠p:=fun q=>mp (q ▸ waf e1)
   exact CellOk.mono g (fun q=>q) (fun b _ q=>q) (fun b u _ e=>by rw [upd_ne (ne_of_none e hp)]; exact e) (h.cell n a k e1 e2)
  ·have hn' : μ.length≤n:=wa4 hn
   rw [waH hn'] at e1
   rw [waH (by rw [← h.ml]; exact hn')] at e2
   rw [h.ml] at e1
   cases q:n - m.length with
   | zero=>
    rw [q] at e1 e2
    obtain rfl:p=a:=by simpa using e1
    obtain rfl:Cell.lst xs=k:=by simpa using e2
    exact ⟨gp,bp,vs,upd_same,hr.gr g⟩
   | succ j=>
    rw [q] at e1
    simp at e1
 ·rcases wau.mp ha with q | q
  ·have na:a≠p:=fun z=>mp (z ▸ q)
   rw [upd_ne na]
   exact h.used a q
  ·have:a=p:=by simpa using q
   subst this
   rw [upd_same]
   simp
 ·rcases wau.mp ha with q | q
  ·exact h.mb a q
  ·have:a=p:=by simpa using q
   subst this
   exact bp
end

section
variable (c:Ct)
def PostE (G:Hp) (μ:List Addr) (ρ:Ev) (σ:L2.St) (Q:VK):R D→Prop
 | .ok d m=>∀ v H G' μ',Sim c G' μ' ρ m σ H→Rep c.K c.mg c.xo G' μ' d v→Gr G μ G' μ'→Q v H
 | .exc e m=>∀ cc dd H G' μ',Sim c G' μ' ρ m σ H→Gr G μ G' μ'→ExcAt c.mg e cc dd G'→c.W cc dd σ H
 | .bad=>False
def PostL (G:Hp) (μ:List Addr) (ρ:Ev) (σ:L2.St) (Q:List V→Hp→Prop):R (List D)→Prop
 | .ok d m=>∀ v H G' μ',Sim c G' μ' ρ m σ H→RepL c.K c.mg c.xo G' μ' d v→Gr G μ G' μ'→Q v H
 | .exc e m=>∀ cc dd H G' μ',Sim c G' μ' ρ m σ H→Gr G μ G' μ'→ExcAt c.mg e cc dd G'→c.W cc dd σ H
 | .bad=>False
def PostT (G:Hp) (μ:List Addr) (ρ:Ev) (σ:L2.St) (Q:Bool→Hp→Prop):R Bool→Prop
 | .ok b m=>∀ H G' μ',Sim c G' μ' ρ m σ H→Gr G μ G' μ'→Q b H
 | .exc e m=>∀ cc dd H G' μ',Sim c G' μ' ρ m σ H→Gr G μ G' μ'→ExcAt c.mg e cc dd G'→c.W cc dd σ H
 | .bad=>False
def PostS (G:Hp) (μ:List Addr) (D:Ends):O→Prop
 | .nx ρ m=>∀ σ H G' μ',Sim c G' μ' ρ m σ H→Gr G μ G' μ'→D.nx σ H
 | .bk ρ m=>∀ σ H G' μ',Sim c G' μ' ρ m σ H→Gr G μ G' μ'→D.bk σ H
 | .ct ρ m=>∀ σ H G' μ',Sim c G' μ' ρ m σ H→Gr G μ G' μ'→D.ct σ H
 | .rt d m=>∀ v H G' μ',MemOk c G' μ' m H→Gr G μ G' μ'→Rep c.K c.mg c.xo G' μ' d v→D.rt v H
 | .exc e ρ m=>∀ cc dd σ H G' μ',Sim c G' μ' ρ m σ H→Gr G μ G' μ'→ExcAt c.mg e cc dd G'→c.W cc dd σ H
 | .bad=>False
def rE (f:E):TE:=fun σ H Q=>∃ ρ m G μ,Sim c G μ ρ m σ H∧PostE c G μ ρ σ Q (f ρ m)
def rL (f:EL):TA:=fun σ H Q=>∃ ρ m G μ,Sim c G μ ρ m σ H∧PostL c G μ ρ σ Q (f ρ m)
def rT (f:ET):TT:=fun σ H Q=>∃ ρ m G μ,Sim c G μ ρ m σ H∧PostT c G μ ρ σ Q (f ρ m)
def rS (f:S):TS:=fun D σ H=>∃ ρ m G μ,Sim c G μ ρ m σ H∧PostS c G μ D (f ρ m)
end
section
variable {X:Cx} {c:Ct}
theorem _root_.L2.PE.imp {e:Expr} {t t' : TE} (h:PE X e t) (i:∀ σ H Q,t' σ H Q→t σ H Q):PE X e t':=⟨fun pins s σ H Q I q=>h.run pins s σ H Q I (i σ H Q q)⟩
theorem _root_.L2.PT.imp {e:Expr} {t t' : TT} (h:PT X e t) (i:∀ σ H Q,t' σ H Q→t σ H Q):PT X e t':=⟨fun pins s σ H Q I q=>h.run pins s σ H Q I (i σ H Q q)⟩
theorem _root_.L2.PW.imp {e:Expr} {t t' : TT} (h:PW X e t) (i:∀ σ H Q,t' σ H Q→t σ H Q):PW X e t':=⟨fun w pins s σ H Q I q=>h.run w pins s σ H Q I (i σ H Q q)⟩
theorem _root_.L2.PA.imp {e:List Expr} {t t' : TA} (h:PA X e t) (i:∀ σ H Q,t' σ H Q→t σ H Q):PA X e t':=⟨fun p pins s σ H Q I q=>h.run p pins s σ H Q I (i σ H Q q)⟩
theorem _root_.L2.PS.imp {e:Stmt} {t t' : TS} (h:PS X e t) (i:∀ D σ H,t' D σ H→t D σ H):PS X e t':=⟨fun pins s σ H D I q=>h.run pins s σ H D I (i D σ H q)⟩
theorem _root_.L2.PSs.imp {e:List Stmt} {t t' : TS} (h:PSs X e t) (i:∀ D σ H,t' D σ H→t D σ H):PSs X e t':=⟨fun pins s σ H D I q=>h.run pins s σ H D I (i D σ H q)⟩

variable {G:Hp} {μ:List Addr} {ρ:Ev} {m:Mem} {σ:L2.St} {H:Hp}
theorem qaq {f:E} {k:D→Mem→R D} {Q Q' : VK} (S:Sim c G μ ρ m σ H) (h:PostE c G μ ρ σ Q ((f ρ m).bind k))
  (q:∀ d m1 v H1 G1 μ1,Sim c G1 μ1 ρ m1 σ H1→Rep c.K c.mg c.xo G1 μ1 d v→Gr G μ G1 μ1→PostE c G1 μ1 ρ σ Q (k d m1)→Q' v H1):rE c f σ H Q':=by
 refine ⟨ρ,m,G,μ,S,?_⟩
 cases e:f ρ m with
 | ok d m1=>
  rw [e] at h
  intro v H1 G1 μ1 S1 R1 g1
  refine q d m1 v H1 G1 μ1 S1 R1 g1 ?_
  simp only [R.bind_ok] at h
  cases e2:k d m1 with
  | ok d2 m2=>
   rw [e2] at h
   exact fun v2 H2 G2 μ2 S2 R2 g2=>h v2 H2 G2 μ2 S2 R2 (g1.trans g2)
  | exc x m2=>
   rw [e2] at h
   exact fun cc dd H2 G2 μ2 S2 g2=>h cc dd H2 G2 μ2 S2 (g1.trans g2)
  | bad=>
   rw [e2] at h
   exact h
 | exc x m1=>
  rw [e] at h
  exact h
 | bad=>
  rw [e] at h
  exact h
theorem qh3 {f:E} {k:D→Mem→R (List D)} {Q:List V→Hp→Prop} {Q' : VK} (S:Sim c G μ ρ m σ H) (h:PostL c G μ ρ σ Q ((f ρ m).bind k))
  (q:∀ d m1 v H1 G1 μ1,Sim c G1 μ1 ρ m1 σ H1→Rep c.K c.mg c.xo G1 μ1 d v→Gr G μ G1 μ1→PostL c G1 μ1 ρ σ Q (k d m1)→Q' v H1):rE c f σ H Q':=by
 refine ⟨ρ,m,G,μ,S,?_⟩
 cases e:f ρ m with
 | ok d m1=>
  rw [e] at h
  intro v H1 G1 μ1 S1 R1 g1
  refine q d m1 v H1 G1 μ1 S1 R1 g1 ?_
  simp only [R.bind_ok] at h
  cases e2:k d m1 with
  | ok d2 m2=>
   rw [e2] at h
   exact fun v2 H2 G2 μ2 S2 R2 g2=>h v2 H2 G2 μ2 S2 R2 (g1.trans g2)
  | exc x m2=>
   rw [e2] at h
   exact fun cc dd H2 G2 μ2 S2 g2=>h cc dd H2 G2 μ2 S2 (g1.trans g2)
  | bad=>
   rw [e2] at h
   exact h
 | exc x m1=>
  rw [e] at h
  exact h
 | bad=>
  rw [e] at h
  exact h
theorem qby {f:E} {k:D→Mem→R Bool} {Q:Bool→Hp→Prop} {Q' : VK} (S:Sim c G μ ρ m σ H) (h:PostT c G μ ρ σ Q ((f ρ m).bind k))
  (q:∀ d m1 v H1 G1 μ1,Sim c G1 μ1 ρ m1 σ H1→Rep c.K c.mg c.xo G1 μ1 d v→Gr G μ G1 μ1→PostT c G1 μ1 ρ σ Q (k d m1)→Q' v H1):rE c f σ H Q':=by
 refine ⟨ρ,m,G,μ,S,?_⟩
 cases e:f ρ m with
 | ok d m1=>
  rw [e] at h
  intro v H1 G1 μ1 S1 R1 g1
  refine q d m1 v H1 G1 μ1 S1 R1 g1 ?_
  simp only [R.bind_ok] at h
  cases e2:k d m1 with
  | ok d2 m2=>
   rw [e2] at h
   exact fun H2 G2 μ2 S2 g2=>h H2 G2 μ2 S2 (g1.trans g2)
  | exc x m2=>
   rw [e2] at h
   exact fun cc dd H2 G2 μ2 S2 g2=>h cc dd H2 G2 μ2 S2 (g1.trans g2)
  | bad=>
   rw [e2] at h
   exact h
 | exc x m1=>
  rw [e] at h
  exact h
 | bad=>
  rw [e] at h
  exact h
theorem PostS.weak {D:Ends} {o:O} {G1:Hp} {μ1:List Addr} (h:PostS c G μ D o) (g:Gr G μ G1 μ1):PostS c G1 μ1 D o:=by
 cases o with
 | nx ρ m=>exact fun σ H G' μ' S g'=>h σ H G' μ' S (g.trans g')
 | bk ρ m=>exact fun σ H G' μ' S g'=>h σ H G' μ' S (g.trans g')
 | ct ρ m=>exact fun σ H G' μ' S g'=>h σ H G' μ' S (g.trans g')
 | rt d m=>exact fun v H G' μ' S g'=>h v H G' μ' S (g.trans g')
 | exc e ρ m=>exact fun cc dd σ H G' μ' S g'=>h cc dd σ H G' μ' S (g.trans g')
 | bad=>exact h
theorem qb5 {f:E} {k:D→Mem→O} {D:Ends} {Q' : VK} (S:Sim c G μ ρ m σ H) (h:PostS c G μ D ((f ρ m).then ρ k))
  (q:∀ d m1 v H1 G1 μ1,Sim c G1 μ1 ρ m1 σ H1→Rep c.K c.mg c.xo G1 μ1 d v→Gr G μ G1 μ1→PostS c G1 μ1 D (k d m1)→Q' v H1):rE c f σ H Q':=by
 refine ⟨ρ,m,G,μ,S,?_⟩
 cases e:f ρ m with
 | ok d m1=>
  rw [e] at h
  exact fun v H1 G1 μ1 S1 R1 g1=>q d m1 v H1 G1 μ1 S1 R1 g1 (PostS.weak h g1)
 | exc x m1=>
  rw [e] at h
  exact fun cc dd H1 G1 μ1 S1 g1 x1=>h cc dd σ H1 G1 μ1 S1 g1 x1
 | bad=>
  rw [e] at h
  exact h
theorem qjO {f:ET} {k:Bool→Mem→O} {D:Ends} {Q' : Bool→Hp→Prop} (S:Sim c G μ ρ m σ H) (h:PostS c G μ D ((f ρ m).then ρ k))
  (q:∀ b m1 H1 G1 μ1,Sim c G1 μ1 ρ m1 σ H1→Gr G μ G1 μ1→PostS c G1 μ1 D (k b m1)→Q' b H1):rT c f σ H Q':=by
 refine ⟨ρ,m,G,μ,S,?_⟩
 cases e:f ρ m with
 | ok d m1=>
  rw [e] at h
  exact fun H1 G1 μ1 S1 g1=>q d m1 H1 G1 μ1 S1 g1 (PostS.weak h g1)
 | exc x m1=>
  rw [e] at h
  exact fun cc dd H1 G1 μ1 S1 g1 x1=>h cc dd σ H1 G1 μ1 S1 g1 x1
 | bad=>
  rw [e] at h
  exact h
theorem qdG {f:ET} {k:Bool→Mem→R Bool} {Q Q' : Bool→Hp→Prop} (S:Sim c G μ ρ m σ H) (h:PostT c G μ ρ σ Q ((f ρ m).bind k))
  (q:∀ b m1 H1 G1 μ1,Sim c G1 μ1 ρ m1 σ H1→Gr G μ G1 μ1→PostT c G1 μ1 ρ σ Q (k b m1)→Q' b H1):rT c f σ H Q':=by
 refine ⟨ρ,m,G,μ,S,?_⟩
 cases e:f ρ m with
 | ok d m1=>
  rw [e] at h
  intro H1 G1 μ1 S1 g1
  refine q d m1 H1 G1 μ1 S1 g1 ?_
  simp only [R.bind_ok] at h
  cases e2:k d m1 with
  | ok d2 m2=>
   rw [e2] at h
   exact fun H2 G2 μ2 S2 g2=>h H2 G2 μ2 S2 (g1.trans g2)
  | exc x m2=>
   rw [e2] at h
   exact fun cc dd H2 G2 μ2 S2 g2=>h cc dd H2 G2 μ2 S2 (g1.trans g2)
  | bad=>
   rw [e2] at h
   exact h
 | exc x m1=>
  rw [e] at h
  exact h
 | bad=>
  rw [e] at h
  exact h
theorem qa4 {f:EL} {k:List D→Mem→R D} {Q:VK} {Q' : List V→Hp→Prop} (S:Sim c G μ ρ m σ H) (h:PostE c G μ ρ σ Q ((f ρ m).bind k))
  (q:∀ d m1 v H1 G1 μ1,Sim c G1 μ1 ρ m1 σ H1→RepL c.K c.mg c.xo G1 μ1 d v→Gr G μ G1 μ1→PostE c G1 μ1 ρ σ Q (k d m1)→Q' v H1):rL c f σ H Q':=by
 refine ⟨ρ,m,G,μ,S,?_⟩
 cases e:f ρ m with
 | ok d m1=>
  rw [e] at h
  intro v H1 G1 μ1 S1 R1 g1
  refine q d m1 v H1 G1 μ1 S1 R1 g1 ?_
  simp only [R.bind_ok] at h
  cases e2:k d m1 with
  | ok d2 m2=>
   rw [e2] at h
   exact fun v2 H2 G2 μ2 S2 R2 g2=>h v2 H2 G2 μ2 S2 R2 (g1.trans g2)
  | exc x m2=>
   rw [e2] at h
   exact fun cc dd H2 G2 μ2 S2 g2=>h cc dd H2 G2 μ2 S2 (g1.trans g2)
  | bad=>
   rw [e2] at h
   exact h
 | exc x m1=>
  rw [e] at h
  exact h
 | bad=>
  rw [e] at h
  exact h
theorem qh4 {f:EL} {k:List D→Mem→R (List D)} {Q Q' : List V→Hp→Prop} (S:Sim c G μ ρ m σ H) (h:PostL c G μ ρ σ Q ((f ρ m).bind k))
  (q:∀ d m1 v H1 G1 μ1,Sim c G1 μ1 ρ m1 σ H1→RepL c.K c.mg c.xo G1 μ1 d v→Gr G μ G1 μ1→PostL c G1 μ1 ρ σ Q (k d m1)→Q' v H1):rL c f σ H Q':=by
 refine ⟨ρ,m,G,μ,S,?_⟩
 cases e:f ρ m with
 | ok d m1=>
  rw [e] at h
  intro v H1 G1 μ1 S1 R1 g1
  refine q d m1 v H1 G1 μ1 S1 R1 g1 ?_
  simp only [R.bind_ok] at h
  cases e2:k d m1 with
  | ok d2 m2=>
   rw [e2] at h
   exact fun v2 H2 G2 μ2 S2 R2 g2=>h v2 H2 G2 μ2 S2 R2 (g1.trans g2)
  | exc x m2=>
   rw [e2] at h
   exact fun cc dd H2 G2 μ2 S2 g2=>h cc dd H2 G2 μ2 S2 (g1.trans g2)
  | bad=>
   rw [e2] at h
   exact h
 | exc x m1=>
  rw [e] at h
  exact h
 | bad=>
  rw [e] at h
  exact h

theorem qab (i:Nat) {x:Str} {pos:Pos} (hN:X.N[i]? = some x:=by rfl) (hv:Vis X.env.scope x:=by first | exact Or.inl rfl | exact Or.inr (Or.inl rfl) | exact Or.inr (Or.inr rfl)) (hd:(x == ("__debug__" : Str))=false:=by decide)
  (hcd:(x == ("__classdict__" : Str))=false:=by decide):PE X (.Name x pos) (rE c (eVar i)):=by
 refine (pv i hN hv hd hcd).imp ?_
 rintro σ H Q ⟨ρ,m,G,μ,S,h⟩
 unfold eVar at h
 split at h
 ·rename_i d e
  obtain ⟨v,h1,h2⟩:=S.env i d e
  exact ⟨v,h1,h v H G μ S h2 Gr.refl⟩
 ·exact h.elim
theorem qbf {d:D} {v:V} {Q:VK} (hr:∀ G μ,Rep c.K c.mg c.xo G μ d v) (h:rE c (eC d) σ H Q):tC v σ H Q:=by
 obtain ⟨ρ,m,G,μ,S,h⟩:=h
 exact h v H G μ S (hr _ _) Gr.refl
theorem qae {i j pos}:PE X (.Constant (.int i) j pos) (rE c (eC (.int i))):=pe_int.imp fun _ _ _ h=>qbf (fun _ _=>.int i) h
theorem qa8 {b j pos}:PE X (.Constant (.bool b) j pos) (rE c (eC (.bl b))):=pe_bl.imp fun _ _ _ h=>qbf (fun _ _=>.bl b) h
theorem qfk {j pos}:PE X (.Constant .none j pos) (rE c (eC .non)):=pe_non.imp fun _ _ _ h=>qbf (fun _ _=>.non) h
theorem qaF {x j pos} (ho:okS x=true:=by decide +kernel):PE X (.Constant (.str x) j pos) (rE c (eC (.str x))):=pe_str.imp fun _ _ _ h=>qbf (fun _ _=>.str x ho) h
theorem qeG {x:Str} {d:D} {v:V} {u:Value} {pos:Pos} (hg:Gl X x) (hm:X.mg x=some u) (hr:∀ G μ,Rep c.K c.mg c.xo G μ d v) (r:RelV v u) (hd:(x == ("__debug__" : Str))=false:=by decide):PE X (.Name x pos) (rE c (eC d)):=
 (pe_glob hg hm r hd).imp fun _ _ _ h=>qbf hr h

def OpSim (c:Ct) (g:D→D→Option D) (r:R2):Prop:=∀ G μ ρ m σ H x y d u v Q,Sim c G μ ρ m σ H→Rep c.K c.mg c.xo G μ x u→Rep c.K c.mg c.xo G μ y v→g (view m x) (view m y)=some d →
 (∀ w H' G' μ',Sim c G' μ' ρ m σ H'→Rep c.K c.mg c.xo G' μ' d w→Gr G μ G' μ'→Q w H')→r u v H Q
theorem PostE.of {f:Option D} {Q:VK} {m:Mem} (h:PostE c G μ ρ σ Q (R.of m f)):∃ d,f=some d∧PostE c G μ ρ σ Q (.ok d m):=by
 cases f with
 | none=>exact h.elim
 | some d=>exact ⟨d,rfl,h⟩
theorem PostT.of {f:Option Bool} {Q:Bool→Hp→Prop} {m:Mem} (h:PostT c G μ ρ σ Q (R.of m f)):∃ d,f=some d∧PostT c G μ ρ σ Q (.ok d m):=by
 cases f with
 | none=>exact h.elim
 | some d=>exact ⟨d,rfl,h⟩
theorem qlq {g:D→D→Option D} {r:R2} {fa fb:E} {Q:VK} (hs:OpSim c g r) (h:rE c (eOp g fa fb) σ H Q):tOp r (rE c fa) (rE c fb) σ H Q:=by
 obtain ⟨ρ,m,G,μ,S,h⟩:=h
 refine qaq S h fun x m1 u H1 G1 μ1 S1 R1 g1 h1=>?_
 refine qaq S1 h1 fun y m2 v H2 G2 μ2 S2 R2 g2 h2=>?_
 obtain ⟨d,e,h2⟩:=PostE.of h2
 exact hs G2 μ2 ρ m2 σ H2 x y d u v Q S2 (R1.gr g2) R2 e h2
theorem qf4 {op:Operator} {r:R2} {g:D→D→Option D} {a b:Expr} {fa fb:E} {pos:Pos} (ho:OpR X (binaryOp op) r) (hs:OpSim c g r) (ha:PE X a (rE c fa)) (hb:PE X b (rE c fb)):PE X (.BinOp a op b pos) (rE c (eOp g fa fb)):=
 (pe_op ho ha hb).imp fun _ _ _ h=>qlq hs h
def CmpSim (c:Ct) (g:D→D→Option Bool) (r:R2):Prop:=∀ G μ ρ m σ H x y k u v (Q:VK),Sim c G μ ρ m σ H→Rep c.K c.mg c.xo G μ x u→Rep c.K c.mg c.xo G μ y v→g (view m x) (view m y)=some k→Q (.bl k) H→r u v H Q
theorem qlr {g:D→D→Option Bool} {r:R2} {fa fb:E} {Q:VK} (hs:CmpSim c g r) (h:rE c (eCmp g fa fb) σ H Q):tOp r (rE c fa) (rE c fb) σ H Q:=by
 obtain ⟨ρ,m,G,μ,S,h⟩:=h
 refine qaq S h fun x m1 u H1 G1 μ1 S1 R1 g1 h1=>?_
 refine qaq S1 h1 fun y m2 v H2 G2 μ2 S2 R2 g2 h2=>?_
 obtain ⟨d,e,h2⟩:=PostE.of h2
 obtain ⟨k,e1,rfl⟩:=wad.mp e
 exact hs G2 μ2 ρ m2 σ H2 x y k u v Q S2 (R1.gr g2) R2 e1 (h2 _ _ _ _ S2 (.bl k) Gr.refl)
theorem qfl {op:CmpOp} {r:R2} {g:D→D→Option Bool} {a b:Expr} {fa fb:E} {pos:Pos} (ho:OpR X (compareOp op) r) (hs:CmpSim c g r) (ha:PE X a (rE c fa)) (hb:PE X b (rE c fb)) (hm:behindInMarks op b=false):PE X (.Compare a [op] [b] pos) (rE c (eCmp g fa fb)):=
 (pe_cmpR ho ha hb hm).imp fun _ _ _ h=>qlr hs h
theorem qls {g:D→D→Option Bool} {r:R2} {fa fb:E} {Q:Bool→Hp→Prop} (hs:CmpSim c g r) (h:rT c (tCmp g fa fb) σ H Q):tTest (tOp r (rE c fa) (rE c fb)) σ H Q:=by
 obtain ⟨ρ,m,G,μ,S,h⟩:=h
 refine qby S h fun x m1 u H1 G1 μ1 S1 R1 g1 h1=>?_
 refine qby S1 h1 fun y m2 v H2 G2 μ2 S2 R2 g2 h2=>?_
 obtain ⟨k,e,h2⟩:=PostT.of h2
 exact hs G2 μ2 ρ m2 σ H2 x y k u v _ S2 (R1.gr g2) R2 e ⟨k,rfl,h2 _ _ _ S2 Gr.refl⟩
theorem qcl {op:CmpOp} {r:R2} {g:D→D→Option Bool} {a b:Expr} {fa fb:E} {pos:Pos} (ho:OpR X (compareOp op) r) (hs:CmpSim c g r) (ha:PE X a (rE c fa)) (hb:PE X b (rE c fb)) (hm:behindInMarks op b=false):PT X (.Compare a [op] [b] pos) (rT c (tCmp g fa fb)):=
 (pt_cmpR ho ha hb hm).imp fun _ _ _ h=>qls hs h

theorem qaz {a:Expr} {f:ET} {pos:Pos} (h:PT X a (rT c f)):PT X (.UnaryOp .Not a pos) (rT c (tNot f)):=by
 refine (pt_not h).imp ?_
 rintro σ H Q ⟨ρ,m,G,μ,S,h⟩
 exact qdG S h fun b m1 H1 G1 μ1 S1 g1 h1=>h1 _ _ _ S1 Gr.refl
theorem qjP {a:Expr} {f:ET} {pos:Pos} (h:PT X a (rT c f)):PW X (.BoolOp .And [a] pos) (rT c f):=pw_and1 h
theorem qaP {a:Expr} {f:ET} {pos:Pos} (h:PT X a (rT c f)):PW X (.BoolOp .Or [a] pos) (rT c f):=pw_or1 h
theorem qlt {a b:Expr} {rest:List Expr} {f g:ET} {pos:Pos} (ha:PT X a (rT c f)) (hb:PW X (.BoolOp .And (b::rest) pos) (rT c g)):PW X (.BoolOp .And (a::b::rest) pos) (rT c (tAnd f g)):=by
 refine (pw_and ha hb).imp ?_
 rintro σ H Q ⟨ρ,m,G,μ,S,h⟩
 refine qdG S h fun b m1 H1 G1 μ1 S1 g1 h1=>?_
 cases b with
 | true=>exact ⟨ρ,m1,G1,μ1,S1,h1⟩
 | false=>exact h1 _ _ _ S1 Gr.refl
theorem qaU {a b:Expr} {rest:List Expr} {f g:ET} {pos:Pos} (ha:PT X a (rT c f)) (hb:PW X (.BoolOp .Or (b::rest) pos) (rT c g)):PW X (.BoolOp .Or (a::b::rest) pos) (rT c (tOr f g)):=by
 refine (pw_or ha hb).imp ?_
 rintro σ H Q ⟨ρ,m,G,μ,S,h⟩
 refine qdG S h fun b m1 H1 G1 μ1 S1 g1 h1=>?_
 cases b with
 | false=>exact ⟨ρ,m1,G1,μ1,S1,h1⟩
 | true=>exact h1 _ _ _ S1 Gr.refl
theorem qcW {x:D} {k:Bool} {u:V} (e:dBool x=some k) (R1:Rep c.K c.mg c.xo G μ x u):u = .bl k:=by
 cases x <;> simp [dBool] at e
 subst e
 cases R1
 rfl
theorem qlu {a:Expr} {f:E} {pos:Pos} (h:PE X a (rE c f)):PE X (.UnaryOp .Not a pos) (rE c (eNot f)):=by
 refine (pe_not h).imp ?_
 rintro σ H Q ⟨ρ,m,G,μ,S,h⟩
 refine qaq S h fun x m1 u H1 G1 μ1 S1 R1 g1 h1=>?_
 cases e:dBool x with
 | none=>rw [e] at h1; exact h1.elim
 | some k=>
  rw [e] at h1
  exact ⟨k,qcW e R1,h1 _ _ _ _ S1 (.bl _) Gr.refl⟩
theorem qfm {op} {a:Expr} {f:E} {pos:Pos} (h:PE X a (rE c f)):PE X (.BoolOp op [a] pos) (rE c f):=pe_one h
theorem qgt {a b:Expr} {rest:List Expr} {f g:E} {pos:Pos} (ha:PE X a (rE c f)) (hb:PE X (.BoolOp .And (b::rest) pos) (rE c g)):PE X (.BoolOp .And (a::b::rest) pos) (rE c (eAnd f g)):=by
 refine (pe_and ha hb).imp ?_
 rintro σ H Q ⟨ρ,m,G,μ,S,h⟩
 refine qaq S h fun x m1 u H1 G1 μ1 S1 R1 g1 h1=>?_
 cases e:dBool x with
 | none=>rw [e] at h1; exact h1.elim
 | some k=>
  rw [e] at h1
  refine ⟨k,qcW e R1,?_⟩
  cases k with
  | true=>exact ⟨ρ,m1,G1,μ1,S1,h1⟩
  | false=>exact h1 _ _ _ _ S1 (.bl _) Gr.refl
theorem qnw {a b:Expr} {rest:List Expr} {f g:E} {pos:Pos} (ha:PE X a (rE c f)) (hb:PE X (.BoolOp .Or (b::rest) pos) (rE c g)):PE X (.BoolOp .Or (a::b::rest) pos) (rE c (eOr f g)):=by
 refine (pe_or ha hb).imp ?_
 rintro σ H Q ⟨ρ,m,G,μ,S,h⟩
 refine qaq S h fun x m1 u H1 G1 μ1 S1 R1 g1 h1=>?_
 cases e:dBool x with
 | none=>rw [e] at h1; exact h1.elim
 | some k=>
  rw [e] at h1
  refine ⟨k,qcW e R1,?_⟩
  cases k with
  | false=>exact ⟨ρ,m1,G1,μ1,S1,h1⟩
  | true=>exact h1 _ _ _ _ S1 (.bl _) Gr.refl
theorem qac:PA X [] (rL c lNil):=by
 refine pa_nil.imp ?_
 rintro σ H Q ⟨ρ,m,G,μ,S,h⟩
 exact h _ _ _ _ S .nil Gr.refl
theorem qaa {e:Expr} {es:List Expr} {f:E} {g:EL} (ha:PE X e (rE c f)) (hr:PA X es (rL c g)) (hs:starEach (e::es) X.env=(false,eval e X.env)::starEach es X.env:=by rfl):PA X (e::es) (rL c (lCons f g)):=by
 refine (pa_cons ha hr hs).imp ?_
 rintro σ H Q ⟨ρ,m,G,μ,S,h⟩
 refine qh3 S h fun x m1 u H1 G1 μ1 S1 R1 g1 h1=>?_
 refine qh4 S1 h1 fun xs m2 us H2 G2 μ2 S2 R2 g2 h2=>?_
 exact h2 _ _ _ _ S2 (.cons (R1.gr g2) R2) Gr.refl
theorem qaQ {es:List Expr} {f:EL} {x1 pos} (h:PA X es (rL c f)):PE X (.Tuple es x1 pos) (rE c (eTup f)):=by
 refine (pe_tup h).imp ?_
 rintro σ H Q ⟨ρ,m,G,μ,S,h⟩
 refine qa4 S h fun xs m1 us H1 G1 μ1 S1 R1 g1 h1=>?_
 split at h1
 ·rename_i hl
  refine ⟨by rw [← R1.length,sizeLine_eq]; exact hl,fun p hp=>?_⟩
  obtain ⟨S2,g2⟩:=S1.alloc hp (.tup us)
  exact h1 _ _ _ _ S2 (.tup upd_same (R1.gr g2)) g2
 ·exact h1.elim
theorem Sim.newL {M:Bool} {xs:List D} {vs:List V} {d:D} {m' : Mem} {p:Addr} (S:Sim c G μ ρ m σ H) (hp:H p=none) (r:RepL c.K c.mg c.xo G μ xs vs) {Q:VK}
  (h:PostE c G μ ρ σ Q (mkL M xs m)):Q (.ref p) (upd H p (.lst vs)):=by
 cases M with
 | true=>
  obtain ⟨M2,g2⟩:=S.mem.allocM hp r
  refine h _ _ _ _ (S.gr M2 g2) (.loc ?_) g2
  rw [← S.mem.ml]
  simp
 | false=>
  obtain ⟨S2,g2⟩:=S.alloc hp (.lst vs)
  exact h _ _ _ _ S2 (.lst (SqL.of upd_same) (r.gr g2)) g2
theorem qaC {M:Bool} {es:List Expr} {f:EL} {pos:Pos} (h:PA X es (rL c f)):PE X (.List es pos) (rE c (eLst M f)):=by
 refine (pe_lst h).imp ?_
 rintro σ H Q ⟨ρ,m,G,μ,S,h⟩
 refine qa4 S h fun xs m1 us H1 G1 μ1 S1 R1 g1 h1=>?_
 split at h1
 ·rename_i hl
  exact ⟨by rw [← R1.length,sizeLine_eq]; exact hl,fun p hp=>S1.newL (d:=.non) (m':=m1) hp R1 h1⟩
 ·exact h1.elim

theorem qak:PSs X [] (rS c sNext):=by
 refine pss_nil.imp ?_
 rintro D σ H ⟨ρ,m,G,μ,S,h⟩
 exact h _ _ _ _ S Gr.refl
theorem PostS.seq {D:Ends} {a b:S} {ρ:Ev} {m:Mem} (h:PostS c G μ D (sSeq a b ρ m)):PostS c G μ { D with nx:=rS c b D } (a ρ m):=by
 unfold sSeq at h
 cases e:a ρ m with
 | nx ρ1 m1=>
  rw [e] at h
  exact fun σ H G' μ' S g=>⟨ρ1,m1,G',μ',S,PostS.weak h g⟩
 | bk ρ1 m1=>rw [e] at h; exact h
 | ct ρ1 m1=>rw [e] at h; exact h
 | rt d m1=>rw [e] at h; exact h
 | exc x ρ1 m1=>rw [e] at h; exact h
 | bad=>rw [e] at h; exact h
theorem qad {st:Stmt} {rest:List Stmt} {a b:S} (h1:PS X st (rS c a)) (h2:PSs X rest (rS c b)):PSs X (st::rest) (rS c (sSeq a b)):=by
 refine (pss_cons h1 h2).imp ?_
 rintro D σ H ⟨ρ,m,G,μ,S,h⟩
 exact ⟨ρ,m,G,μ,S,PostS.seq h⟩
theorem qag {st:Stmt} {a:S} (h1:PS X st (rS c a)):PSs X [st] (rS c a):=pss_one h1
theorem qaE {t:Expr} {a b:List Stmt} {ft:ET} {fa fb:S} {pos:Pos} (ht:PT X t (rT c ft)) (ha:PSs X a (rS c fa)) (hb:PSs X b (rS c fb)):PS X (.If t a b pos) (rS c (sIf ft fa fb)):=by
 refine (ps_if ht ha hb).imp ?_
 rintro D σ H ⟨ρ,m,G,μ,S,h⟩
 refine qjO S h fun k m1 H1 G1 μ1 S1 g1 h1=>?_
 cases k with
 | true=>exact ⟨ρ,m1,G1,μ1,S1,h1⟩
 | false=>exact ⟨ρ,m1,G1,μ1,S1,h1⟩
theorem qah {e:Expr} {f:E} {pos:Pos} (he:PE X e (rE c f)):PS X (.Return (some e) pos) (rS c (sRet f)):=by
 refine (ps_ret he).imp ?_
 rintro D σ H ⟨ρ,m,G,μ,S,h⟩
 exact qb5 S h fun d m1 v H1 G1 μ1 S1 R1 g1 h1=>h1 _ _ _ _ S1.mem Gr.refl R1
theorem qbg {e:Expr} {f:E} {pos:Pos} (he:PE X e (rE c f)) (hs:swapsWith e none pos.line X.env=pure false:=by rfl):PS X (.Expr e pos) (rS c (sExpr f)):=by
 refine (ps_expr he hs).imp ?_
 rintro D σ H ⟨ρ,m,G,μ,S,h⟩
 exact qb5 S h fun d m1 v H1 G1 μ1 S1 R1 g1 h1=>h1 _ _ _ _ S1 Gr.refl
theorem Sim.put {i:Nat} {d:D} {v:V} (S:Sim c G μ ρ m σ H) (r:Rep c.K c.mg c.xo G μ d v):Sim c G μ (ρ.set i (some d)) m (σ.set i (some v)) H:=by
 refine ⟨S.mem,fun j e h=>?_,by simp [S.len]⟩
 by_cases hj:i=j
 ·subst hj
  by_cases hl:i < ρ.length
  ·rw [waz hl] at h
   obtain rfl:d=e:=by simpa using h
   exact ⟨v,waz (by rw [← S.len]; exact hl),r⟩
  ·rw [war (by simpa using hl)] at h
   cases h
 ·rw [waF hj] at h ⊢
  exact S.env j e h
theorem qaI {i:Nat} {x:Str} {e:Expr} {f:E} {pos pos' : Pos} (hN:X.N.Nodup) (hi:X.N[i]? = some x) (hx:Loc X.env.scope x) (he:PE X e (rE c f)) (hs:swapsWith e (some (.Name x pos')) pos.line X.env=pure false:=by rfl) (hf:X.fn x=true∨X.env.scope.names.lookup x=some .local:=by first | exact .inl rfl | exact .inr rfl | assumption) :
  PS X (.Assign [.Name x pos'] e pos) (rS c (sSet i f)):=by
 refine (ps_set hN hi hx he hs hf).imp ?_
 rintro D σ H ⟨ρ,m,G,μ,S,h⟩
 exact qb5 S h fun d m1 v H1 G1 μ1 S1 R1 g1 h1=>h1 _ _ _ _ (S1.put R1) Gr.refl
def rG (c:Ct) (sl:List Nat) (g:T):TG:=fun v σ H Q=>∃ d ρ ρ' m G μ,Sim c G μ ρ m σ H∧Rep c.K c.mg c.xo G μ d v∧g d ρ=some ρ'∧∀ σ',Sim c G μ ρ' m σ' H→(∀ vs,(∀ i∈sl,i∈vs)→wipe σ' vs=wipe σ vs)→Q σ' H
def rGs (c:Ct) (sl:List Nat) (g:Ts):TGs:=fun v σ H Q=>∃ d ρ ρ' m G μ,Sim c G μ ρ m σ H∧RepL c.K c.mg c.xo G μ d v∧g d ρ=some ρ'∧∀ σ',Sim c G μ ρ' m σ' H→(∀ vs,(∀ i∈sl,i∈vs)→wipe σ' vs=wipe σ vs)→Q σ' H
theorem qcX (σ:L2.St):∀ (vs:List Nat) (i:Nat),(wipe σ vs)[i]? = if i∈vs then (σ[i]?).map fun _=>none else σ[i]?
 | [],i=>by simp [wipe]
 | v::vs,i=>by
  have ih:=qcX σ vs i
  unfold wipe
  by_cases hv:v=i
  ·subst hv
   by_cases hl:v < σ.length
   ·rw [waz (by rw [wipe_length]; exact hl)]
    simp [hl]
   ·rw [war (by simp [wipe_length]; omega)]
    simp [war (wa4 hl)]
  ·rw [waF hv,ih]
   have:(i∈v::vs)=(i∈vs):=by simp [Ne.symm hv]
   simp only [this]
theorem qh5 {σ:L2.St} {i:Nat} {x:Option V} {vs:List Nat} (h:i∈vs):wipe (σ.set i x) vs=wipe σ vs:=by
 apply wby
 intro j
 rw [qcX,qcX]
 by_cases hj:i=j
 ·subst hj
  rw [if_pos h,if_pos h]
  by_cases hl:i < σ.length
  ·simp [hl]
  ·have hl':=wa4 hl
   simp [war hl',hl']
 ·rw [waF hj]
theorem qgu (σ:L2.St) (vs:List Nat):wipe (wipe σ vs) vs=wipe σ vs:=by
 apply wby
 intro j
 rw [qcX (wipe σ vs),qcX σ]
 split
 ·cases σ[j]? <;> rfl
 ·rfl
theorem _root_.L2.PG.imp {e:Expr} {t t' : TG} (h:PG X e t) (i:∀ v σ H Q,t' v σ H Q→t v σ H Q):PG X e t':=⟨fun pins s σ H v u Q I r q=>h.run pins s σ H v u Q I r (i v σ H Q q)⟩
theorem _root_.L2.PGs.imp {e:List Expr} {t t' : TGs} (h:PGs X e t) (i:∀ v σ H Q,t' v σ H Q→t v σ H Q):PGs X e t':=⟨fun pins s σ H v u Q I r q=>h.run pins s σ H v u Q I r (i v σ H Q q)⟩
theorem qan {i:Nat} {x:Str} {pos:Pos} (hN:X.N.Nodup) (hi:X.N[i]? = some x) (hx:Loc X.env.scope x) (hf:X.fn x=true∨X.env.scope.names.lookup x=some .local:=by first | exact .inl rfl | exact .inr rfl | assumption):PG X (.Name x pos) (rG c [i] (gName i)):=by
 refine (pg_name hN hi hx hf).imp ?_
 rintro v σ H Q ⟨d,ρ,ρ',m,G,μ,S,R1,e,q⟩
 obtain rfl:ρ.set i (some d)=ρ':=by simpa [gName] using e
 exact q _ (S.put R1) fun vs h=>qh5 (h i (by simp))
theorem qeH:PGs X [] (rGs c [] gsNil):=by
 refine pgs_nil.imp ?_
 rintro v σ H Q ⟨d,ρ,ρ',m,G,μ,S,R1,e,q⟩
 cases d with
 | nil=>
  cases R1
  obtain rfl:ρ=ρ':=by simpa [gsNil] using e
  exact ⟨rfl,q σ S fun _ _=>rfl⟩
 | cons _ _=>simp [gsNil] at e
theorem qa5 {e:Expr} {es:List Expr} {g:T} {gs:Ts} {sl sl' : List Nat} (h1:PG X e (rG c sl g)) (h2:PGs X es (rGs c sl' gs)) (hs:(assignEach (e::es) X.env).map (·.2)=assign e X.env::(assignEach es X.env).map (·.2):=by rfl):PGs X (e::es) (rGs c (sl++sl') (gsCons g gs)):=by
 refine (pgs_cons h1 h2 hs).imp ?_
 rintro v σ H Q ⟨d,ρ,ρ',m,G,μ,S,R1,e,q⟩
 cases d with
 | nil=>simp [gsCons] at e
 | cons d ds=>
  cases R1 with
  | cons r rs=>
   refine ⟨_,_,rfl,?_⟩
   cases eg:g d ρ with
   | none=>simp [gsCons,eg] at e
   | some ρ1=>
    have e2:gs ds ρ1=some ρ':=by simpa [gsCons,eg] using e
    exact ⟨d,ρ,ρ1,m,G,μ,S,r,eg,fun σ1 S1 w1=>⟨ds,ρ1,ρ',m,G,μ,S1,rs,e2,fun σ2 S2 w2=>q σ2 S2 fun vs hv=>(w2 vs fun i hi=>hv i (by simp [hi])).trans (w1 vs fun i hi=>hv i (by simp [hi]))⟩⟩
theorem qgv {es:List Expr} {gs:Ts} {sl:List Nat} {kk:Nat} {n:Nat} {pos:Pos} (hK:c.K=X.K) (hc:X.calm=true) (h:PGs X es (rGs c sl gs)) (hn:(assignEach es X.env).length=n:=by rfl) (hst:(assignEach es X.env).findIdx? (·.1)=none:=by rfl) :
  PG X (.Tuple es kk pos) (rG c sl (gTup n gs)):=by
 have A:=pg_tup (pos:=pos) (k:=kk) hc h hn hst
 have B:=pg_lst (pos:=pos) (k:=kk) hc h hn hst
 refine ⟨fun pins s σ H v u Q I r q=>?_⟩
 obtain ⟨d,ρ,ρ',m,G,μ,S,R1,e,q⟩:=q
 cases d with
 | tup xs=>
  cases R1 with
  | tup hs ha=>
   have e' : (if xs.length=n then gs xs ρ else none)=some ρ':=e
   split at e'
   ·rename_i hl
    exact A.run pins s σ H _ u Q I r ⟨_,_,rfl,hK ▸ SqT.of (S.mem.gh _ _ hs),by rw [← ha.length]; exact hl,xs,ρ,ρ',m,G,μ,S,ha,e',q⟩
   ·cases e'
 | lst xs=>
  cases R1 with
  | lst hs ha=>
   have e' : (if xs.length=n then gs xs ρ else none)=some ρ':=e
   split at e'
   ·rename_i hl
    exact B.run pins s σ H _ u Q I r ⟨_,_,rfl,hK ▸ S.mem.gh.seq hs,by rw [← ha.length]; exact hl,xs,ρ,ρ',m,G,μ,S,ha,e',q⟩
   ·cases e'
 | _=>cases e
theorem qja {tg e:Expr} {f:E} {g:T} {sl:List Nat} {pos:Pos} (he:PE X e (rE c f)) (hg:PG X tg (rG c sl g)) (hs:swapsWithSole [tg] e pos.line X.env=pure false:=by rfl) (hw:swappedStores [tg] e X.env=pure none:=by rfl)
  (h1:(assignEach [tg] X.env).map (·.2)=[assign tg X.env]:=by rfl):PS X (.Assign [tg] e pos) (rS c (sAsg f g)):=by
 refine (ps_asg he hg hs hw h1).imp ?_
 rintro D σ H ⟨ρ,m,G,μ,S,h⟩
 refine qb5 S h fun d m1 v H1 G1 μ1 S1 R1 g1 h1=>?_
 cases eg:g d ρ with
 | none=>rw [eg] at h1; exact h1.elim
 | some ρ'=>
  rw [eg] at h1
  exact ⟨d,ρ,ρ',m1,G1,μ1,S1,R1,eg,fun σ' S2 _=>h1 _ _ _ _ S2 Gr.refl⟩

structure Fit (X:Cx) (c:Ct) (k:Nat):Prop where
 K:c.K=X.K
 mg:c.mg=X.mg
 w:c.w=X.w
 calm:X.calm=true
 tk:Takes X c.W
 po:PassesOwn (model X.prog X.w) X.A X.env X.xe
 rm:Room k X.A
 nd:X.N.Nodup

structure Fit0 (X:Cx) (c:Ct) (k:Nat):Prop where
 K:c.K=X.K
 mg:c.mg=X.mg
 nd:X.N.Nodup
theorem Fit.z {X:Cx} {c:Ct} {k:Nat} (F:Fit X c k):Fit0 X c k:=⟨F.K,F.mg,F.nd⟩

def YD (c:Ct) (G:Hp) (μ:List Addr) (ds:List D) (i:Nat) (H:Hp) (x:V) (H' : Hp):Prop:=
 ∃ d,ds[i]? = some d∧((H' = H∧Rep c.K c.mg c.xo G μ d x)∨∃ T es vs,d = .tup es∧x = .ref T∧H T=none∧H' = upd H T (.tup vs)∧RepL c.K c.mg c.xo G μ es vs)
def WalkD (c:Ct) (J:It) (G:Hp) (μ:List Addr) (ds:List D):Prop:=Walk J ds.length (fun H=>Same G H) (YD c G μ ds)
def rIt (c:Ct) (f:EL):TI:=fun σ H R=>∃ ρ m G μ,Sim c G μ ρ m σ H∧match f ρ m with
 | .ok ds m1=>∀ J H1 G1 μ1,Sim c G1 μ1 ρ m1 σ H1→Gr G μ G1 μ1→WalkD c J G1 μ1 ds→R J H1
 | .exc e m1=>∀ cc dd H1 G1 μ1,Sim c G1 μ1 ρ m1 σ H1→Gr G μ G1 μ1→ExcAt c.mg e cc dd G1→c.W cc dd σ H1
 | .bad=>False
theorem _root_.L2.PI.imp {tg e:Expr} {t t' : TI} (h:PI X tg e t) (i:∀ σ H Q,t' σ H Q→t σ H Q):PI X tg e t':=⟨fun pins s σ H Q I q=>h.run pins s σ H Q I (i σ H Q q)⟩
theorem _root_.L2.PI.or {tg e:Expr} {t t' : TI} (h:PI X tg e t) (h' : PI X tg e t'):PI X tg e (fun σ H Q=>t σ H Q∨t' σ H Q):=⟨fun pins s σ H Q I q=>q.elim (h.run pins s σ H Q I) (h'.run pins s σ H Q I)⟩
theorem YD.sim {ds:List D} {i:Nat} {x:V} {H' G1:Hp} {μ1:List Addr} (S:Sim c G μ ρ m σ H) (g:Gr G1 μ1 G μ) (y:YD c G1 μ1 ds i H x H') :
  ∃ d G',ds[i]? = some d∧Sim c G' μ ρ m σ H'∧Gr G μ G' μ∧Rep c.K c.mg c.xo G' μ d x:=by
 obtain ⟨d,hd,⟨rfl,r⟩ | ⟨T,es,vs,rfl,rfl,hT,rfl,r⟩⟩:=y
 ·exact ⟨d,G,hd,S,Gr.refl,r.gr g⟩
 ·obtain ⟨S2,g2⟩:=S.alloc hT (.tup vs)
  exact ⟨_,_,hd,S2,g2,.tup upd_same (r.gr (g.trans g2))⟩

theorem qgw {g:T} {b:S} {ds:List D} {i:Nat} {d:D} (h:ds[i]? = some d) (ρ:Ev) (m:Mem):forL g b (ds.drop i) ρ m=match g d ρ with
  | none=>.bad
  | some ρ=>match b ρ m with
   | .nx ρ m=>forL g b (ds.drop (i+1)) ρ m
   | .ct ρ m=>forL g b (ds.drop (i+1)) ρ m
   | .bk ρ m=>.nx ρ m
   | o=>o:=by
 have e:ds.drop i=d::ds.drop (i+1):=by
  obtain ⟨h1,h2⟩:=waj.mp h
  rw [← h2]
  exact (List.drop_eq_getElem_cons h1)
 rw [e]
 rfl
theorem qbn {k:Nat} {tg iter:Expr} {body:List Stmt} {f:EL} {g:T} {sl:List Nat} {b:S} {pos:Pos} (F:Fit X c k) (hi:PI X tg iter (rIt c f)) (hg:PG X tg (rG c sl g)) (hb:PSs X body (rS c b)) (hs:∀ x,foldedSetIterable iter X.env x=pure x:=by intro _; rfl) :
  PS X (.For tg iter body [] pos) (rS c (sFor f g b)):=by
 refine (ps_for F.po F.calm hi hg hb hs).imp ?_
 rintro D σ H ⟨ρ,m,G,μ,S,h⟩
 refine ⟨ρ,m,G,μ,S,?_⟩
 have h:PostS c G μ D ((f ρ m).then ρ fun ds m=>forL g b ds ρ m):=h
 cases ef:f ρ m with
 | bad=>rw [ef] at h; exact h
 | exc x m1=>rw [ef] at h; exact fun cc dd H1 G1 μ1 S1 g1 x1=>h cc dd σ H1 G1 μ1 S1 g1 x1
 | ok ds m1=>
  rw [ef] at h
  have h:PostS c G μ D (forL g b ds ρ m1):=h
  intro J H1 G1 μ1 S1 g1 wk
  refine for_it wk (fun i σ H=>∃ ρ m G μ,Sim c G μ ρ m σ H∧Gr G1 μ1 G μ∧PostS c G μ D (forL g b (ds.drop i) ρ m)) ⟨ρ,m1,G1,μ1,S1,Gr.refl,h.weak g1⟩ (fun i σ H _ ⟨_,_,G,μ,S,g,_⟩=>g.g.trans S.mem.gh) ?_ ?_
  ·rintro i x σ H H' hi ⟨ρ,m,G,μ,S,gg,h⟩ y
   obtain ⟨d,G',hd,S2,g2,r⟩:=y.sim S gg
   rw [qgw hd] at h
   cases eg:g d ρ with
   | none=>rw [eg] at h; exact h.elim
   | some ρ'=>
    rw [eg] at h
    refine ⟨d,ρ,ρ',m,G',μ,S2,r,eg,fun σ' S3 _=>⟨ρ',m,G',μ,S3,?_⟩⟩
    have h:=h.weak g2
    simp only at h
    cases eb:b ρ' m with
    | nx ρ3 m3=>
     rw [eb] at h
     exact fun σ3 H3 G3 μ3 S3 g3=>⟨ρ3,m3,G3,μ3,S3,(gg.trans g2).trans g3,h.weak g3⟩
    | ct ρ3 m3=>
     rw [eb] at h
     exact fun σ3 H3 G3 μ3 S3 g3=>⟨ρ3,m3,G3,μ3,S3,(gg.trans g2).trans g3,h.weak g3⟩
    | bk ρ3 m3=>rw [eb] at h; exact h
    | rt d3 m3=>rw [eb] at h; exact h
    | exc x3 ρ3 m3=>rw [eb] at h; exact h
    | bad=>rw [eb] at h; exact h
  ·rintro σ H ⟨ρ,m,G,μ,S,gg,h⟩
   rw [List.drop_length] at h
   exact h _ _ _ _ S Gr.refl

abbrev Ct.acc (c:Ct) (D:Addr) (vs:List V):Ct:={ c with B:=upd c.B D (.lst vs),W:=fun _ _ _ _=>False }
theorem CellOk.reB {c c' : Ct} {a:Addr} {k:Cell} (hK:c'.K=c.K) (hm:c'.mg=c.mg) (hw:c'.w=c.w) (hx:c'.xo=c.xo) (hb:∀ b,c.B b=none→(b=a∨H b=some (.own a))→c'.B b=none) (h:CellOk c G μ H a k):CellOk c' G μ H a k:=by
 cases k with
 | dead=>trivial
 | fn k=>exact ⟨h.1,by rw [hx]; exact h.2⟩
 | lst xs=>
  obtain ⟨h1,h2,h3⟩:=h
  exact ⟨h1,hb _ h2 (.inl rfl),by rw [hK,hm,hx]; exact h3⟩
 | dct xs=>
  obtain ⟨h1,h2,h3⟩:=h
  exact ⟨h1,hb _ h2 (.inl rfl),by rw [hK,hm,hx]; exact h3⟩
 | dcT xs=>
  obtain ⟨h1,h2,h3⟩:=h
  exact ⟨h1,hb _ h2 (.inl rfl),by rw [hK,hm,hx]; exact h3⟩
 | dcN xs=>
  obtain ⟨h1,h2,h3⟩:=h
  exact ⟨h1,hb _ h2 (.inl rfl),by rw [hK,hm,hw,hx]; exact h3⟩
 | dcF ps=>
  obtain ⟨xs,ep,h3,h4⟩:=h
  exact ⟨xs,ep,by rw [hw]; exact h3,by rw [hK,hm,hx]; exact h4⟩
 | obj n fs=>
  obtain ⟨h1,h2,C,dx,fv,e,h3,h4,h5,h6,h7⟩:=h
  exact ⟨h1,hb _ h2 (.inl rfl),C,dx,fv,by rw [hm]; exact e,h3,h4,h5,hb _ h6 (.inr h4),by rw [hK,hm,hx]; exact h7⟩
theorem qfn {ρ:Ev} {σ:L2.St} (hl:ρ.length=σ.length) (K:PySem.W.Frag) (mg:Str→Option Value) (xo:XO) (h:∀ (i:Nat) (d:D),ρ[i]? = some (some d)→∃ v,σ[i]? = some (some v)∧Rep K mg xo G μ d v) :
  ∀ vs:List Nat,(wipeE ρ vs).length=(wipe σ vs).length∧∀ (i:Nat) (d:D),(wipeE ρ vs)[i]? = some (some d)→∃ v,(wipe σ vs)[i]? = some (some v)∧Rep K mg xo G μ d v
 | []=>⟨hl,h⟩
 | x::vs=>by
  obtain ⟨h1,h2⟩:=qfn hl K mg xo h vs
  refine ⟨by unfold wipeE wipe; simp [h1],fun i d e=>?_⟩
  unfold wipeE at e
  unfold wipe
  by_cases hx:x=i
  ·subst hx
   by_cases hl2:x < (wipeE ρ vs).length
   ·rw [waz hl2] at e; cases e
   ·rw [war (by simpa using hl2)] at e; cases e
  ·rw [waF hx] at e ⊢
   exact h2 i d e
theorem Sim.blk {D:Addr} (S:Sim c G μ ρ m σ H) (hD:H D=none) (vs:List Nat):Sim (c.acc D []) G μ (wipeE ρ vs) m (wipe σ vs) (upd H D (.lst [])):=by
 obtain ⟨gD,bD,mD⟩:=S.mem.fresh hD
 obtain ⟨h1,h2⟩:=qfn S.len c.K c.mg c.xo S.env vs
 have nD:∀ b,c.B b=none→b≠D→(c.acc D []).B b=none:=fun b hb nb=>(upd_ne nb).trans hb
 refine ⟨⟨fun b u e=>by rw [upd_ne (ne_of_none e gD)]; exact S.mem.gh _ _ e,fun b u e=>?_,S.mem.g0,fun a u e1 e2=>?_,S.mem.ml,S.mem.nd,fun n a k e1 e2=>?_,fun a ha=>?_,fun a ha=>nD a (S.mem.mb a ha) fun q=>mD (q ▸ ha),fun q hq=>have T:=S.mem.tb q hq; T.up (Same.refl _) T.g (nD _ T.b (T.ne0 hD)) T.m (upd_ne (T.ne0 hD))⟩,h2,h1⟩
 ·have e:upd c.B D (.lst []) b=some u:=e
  by_cases hb:b=D
  ·subst hb
   rw [upd_same] at e ⊢
   exact e
  ·rw [upd_ne hb] at e ⊢
   exact S.mem.bh _ _ e
 ·have e1:upd c.B D (.lst []) a=some u:=e1
  by_cases hb:a=D
  ·subst hb
   exact gD
  ·rw [upd_ne hb] at e1
   exact S.mem.gb a u e1 e2
 ·have na:a≠D:=fun q=>mD (q ▸ waf e1)
  have q:=S.mem.cell n a k e1 e2
  refine CellOk.reB (c:=c) rfl rfl rfl rfl (fun b hb hw=>nD b hb ?_) (CellOk.mono Gr.refl (fun q=>q) (fun b _ q=>q) (fun b u _ e=>by rw [upd_ne (ne_of_none e hD)]; exact e) q)
  rcases hw with hw | hw
  ·exact hw ▸ na
  ·intro z
   rw [z,upd_same] at hw
   cases hw
 ·have na:a≠D:=fun q=>mD (q ▸ ha)
  rw [upd_ne na]
  exact S.mem.used a ha
theorem Sim.blkMore {D:Addr} {vs ws:List V} (S:Sim (c.acc D vs) G μ ρ m σ H) (g0:c.G0 D=none):Sim (c.acc D ws) G μ ρ m σ (upd H D (.lst ws)):=by
 have bD:(c.acc D vs).B D=some (.lst vs):=upd_same
 have hD:H D=some (.lst vs):=S.mem.bh _ _ bD
 have gD:G D=none:=S.mem.gb _ _ bD g0
 have nD:∀ b,(c.acc D vs).B b=none→b≠D:=fun b hb z=>by rw [z,bD] at hb; cases hb
 have nD2:∀ b,(c.acc D vs).B b=none→(c.acc D ws).B b=none:=fun b hb=>by
  have q:upd c.B D (.lst vs) b=none:=hb
  show upd c.B D (.lst ws) b=none
  rw [upd_ne (nD b hb)] at q ⊢
  exact q
 refine ⟨⟨fun b u e=>by rw [upd_ne (ne_of_none e gD)]; exact S.mem.gh _ _ e,fun b u e=>?_,S.mem.g0,fun a u e1 e2=>?_,S.mem.ml,S.mem.nd,fun n a k e1 e2=>?_,fun a ha=>?_,fun a ha=>nD2 a (S.mem.mb a ha),fun q hq=>have T:=S.mem.tb q hq; T.up (Same.refl _) T.g (nD2 _ T.b) T.m (T.at_ hD (fun ps z=>by cases z))⟩,S.env,S.len⟩
 ·have e:upd c.B D (.lst ws) b=some u:=e
  by_cases hb:b=D
  ·subst hb
   rw [upd_same] at e ⊢
   exact e
  ·rw [upd_ne hb] at e ⊢
   refine S.mem.bh b u ?_
   show upd c.B D (.lst vs) b=some u
   rw [upd_ne hb]
   exact e
 ·have e1:upd c.B D (.lst ws) a=some u:=e1
  by_cases hb:a=D
  ·subst hb
   exact gD
  ·rw [upd_ne hb] at e1
   refine S.mem.gb a u ?_ e2
   show upd c.B D (.lst vs) a=some u
   rw [upd_ne hb]
   exact e1
 ·have q:=S.mem.cell n a k e1 e2
  have na:a≠D:=nD a (S.mem.mb a (waf e1))
  have q2:CellOk (c.acc D ws) G μ H a k:=CellOk.reB (c:=c.acc D vs) rfl rfl rfl rfl (fun b hb _=>nD2 b hb) q
  refine CellOk.mono Gr.refl (fun q=>q) (fun b _ q=>q) (fun b u hw e=>?_) q2
  have nb:b≠D:=by
   rcases hw with hw | hw
   ·exact hw ▸ na
   ·intro z
    rw [z,hD] at e
    rw [hw] at e
    cases e
  rw [upd_ne nb]
  exact e
 ·by_cases hb:a=D
  ·subst hb
   rw [upd_same]
   simp
  ·rw [upd_ne hb]
   exact S.mem.used a ha
theorem PostE.weak {Q:VK} {o:R D} {G1:Hp} {μ1:List Addr} (h:PostE c G μ ρ σ Q o) (g:Gr G μ G1 μ1):PostE c G1 μ1 ρ σ Q o:=by
 cases o with
 | ok d m=>exact fun v H G' μ' S R1 g'=>h v H G' μ' S R1 (g.trans g')
 | exc e m=>exact fun cc dd H G' μ' S g'=>h cc dd H G' μ' S (g.trans g')
 | bad=>exact h
theorem Sim.adopt {D:Addr} {M:Bool} {acc:List TT.D} {vs:List V} {Q:VK} (S:Sim c G μ ρ m σ H) (hD:H D=some (.lst vs)) (gD:G D=none) (b0:c.B D=none) (mD:D∉μ)
  (r:RepL c.K c.mg c.xo G μ acc vs) (h:PostE c G μ ρ σ Q (mkL M acc m)):Q (.ref D) H:=by
 have M0:=S.mem
 cases M with
 | false=>
  have g2:Gr G μ (upd G D (.lst vs)) μ:=⟨fun b u e=>by rw [upd_ne (ne_of_none e gD)]; exact e,wai _⟩
  refine h _ _ _ _ (S.gr (G':=upd G D (.lst vs)) (μ':=μ) ⟨fun b u e=>?_,M0.bh,M0.g0.trans g2.g,fun a u e1 e2=>?_,M0.ml,M0.nd,fun n a k e1 e2=>?_,M0.used,M0.mb,fun q hq=>have T:=M0.tb q hq; T.up g2.g (by rw [upd_ne (T.ne hD (fun ps z=>by cases z))]; exact T.g) T.b T.m rfl⟩ g2) (.lst (SqL.of upd_same) (r.gr g2)) g2
  ·by_cases hb:b=D
   ·subst hb
    rw [upd_same] at e
    rw [hD]
    exact e
   ·rw [upd_ne hb] at e
    exact M0.gh _ _ e
  ·have na:a≠D:=fun z=>by rw [z,b0] at e1; cases e1
   rw [upd_ne na]
   exact M0.gb a u e1 e2
  ·have na:a≠D:=fun q=>mD (q ▸ waf e1)
   exact CellOk.mono g2 (fun q=>by rw [upd_ne na]; exact q) (fun b e q=>by
    have nb:b≠D:=fun z=>by rw [z,hD] at e; cases e
    rw [upd_ne nb]; exact q) (fun b u _ e=>e) (M0.cell n a k e1 e2)
 | true=>
  have g2:Gr G μ G (μ++[D]):=⟨Same.refl _,List.prefix_append _ _⟩
  refine h _ _ _ _ (S.gr (G':=G) (μ':=μ++[D]) ⟨M0.gh,M0.bh,M0.g0,M0.gb,by simp [M0.ml],?_,fun n a k e1 e2=>?_,fun a ha=>?_,fun a ha=>?_,fun q hq=>have T:=M0.tb q hq; T.up (Same.refl _) T.g T.b (fun z=>(wau.mp z).elim T.m (fun z=>T.ne hD (fun ps z=>by cases z) (by simpa using z))) rfl⟩ g2) (.loc (by rw [← M0.ml]; simp)) g2
  ·rw [wbx]
   exact ⟨M0.nd,by simp,fun a ha b hb=>by
    have:b=D:=by simpa using hb
    subst this
    exact fun q=>mD (q ▸ ha)⟩
  ·by_cases hn:n < μ.length
   ·rw [waq hn] at e1
    rw [waq (by rw [← M0.ml]; exact hn)] at e2
    exact CellOk.mono g2 (fun q=>q) (fun b _ q=>q) (fun b u _ e=>e) (M0.cell n a k e1 e2)
   ·have hn' : μ.length≤n:=wa4 hn
    rw [waH hn'] at e1
    rw [waH (by rw [← M0.ml]; exact hn')] at e2
    rw [M0.ml] at e1
    cases q:n - m.length with
    | zero=>
     rw [q] at e1 e2
     obtain rfl:D=a:=by simpa using e1
     obtain rfl:Cell.lst acc=k:=by simpa using e2
     exact ⟨gD,b0,vs,hD,r.gr g2⟩
    | succ j=>
     rw [q] at e1
     simp at e1
  ·rcases wau.mp ha with q | q
   ·exact M0.used a q
   ·have:a=D:=by simpa using q
    subst this
    rw [hD]
    simp
  ·rcases wau.mp ha with q | q
   ·exact M0.mb a q
   ·have:a=D:=by simpa using q
    subst this
    exact b0

theorem Sim.blkEnd {D:Addr} {M:Bool} {acc:List TT.D} {vs:List V} {ρ0:Ev} {σ0:L2.St} {G1:Hp} {μ1:List Addr} {m1:Mem} {H1:Hp} {Q:VK} (S:Sim (c.acc D vs) G μ ρ m σ H) (g0:c.G0 D=none) (b0:c.B D=none) (S1:Sim c G1 μ1 ρ0 m1 σ0 H1) (g:Gr G1 μ1 G μ)
  (r:RepL c.K c.mg c.xo G μ acc vs) (h:PostE c G μ ρ0 σ0 Q (mkL M acc m)):Q (.ref D) H:=by
 have bD:(c.acc D vs).B D=some (.lst vs):=upd_same
 have hD:H D=some (.lst vs):=S.mem.bh _ _ bD
 have gD:G D=none:=S.mem.gb _ _ bD g0
 have nD:∀ b,(c.acc D vs).B b=none→b≠D∧c.B b=none:=fun b hb=>by
  have z:b≠D:=fun z=>by rw [z,bD] at hb; cases hb
  have q:upd c.B D (.lst vs) b=none:=hb
  rw [upd_ne z] at q
  exact ⟨z,q⟩
 have fr:∀ b,c.B b≠none→(c.acc D vs).B b=c.B b:=fun b hb=>upd_ne fun z=>hb (z ▸ b0)
 have M0:MemOk c G μ m H:=by
  refine ⟨S.mem.gh,fun b u e=>S.mem.bh b u ((fr b (by rw [e]; simp)).trans e),S.mem.g0,fun a u e1 e2=>S.mem.gb a u ((fr a (by rw [e1]; simp)).trans e1) e2,S.mem.ml,S.mem.nd,fun n a k e1 e2=>?_,S.mem.used,fun a ha=>(nD a (S.mem.mb a ha)).2,fun q hq=>have T:=S.mem.tb q hq; T.up (Same.refl _) T.g (nD _ T.b).2 T.m rfl⟩
  exact CellOk.reB (c:=c.acc D vs) rfl rfl rfl rfl (fun b hb _=>(nD b hb).2) (S.mem.cell n a k e1 e2)
 have mD:D∉μ:=fun z=>(nD D (S.mem.mb D z)).1 rfl
 exact (S1.gr M0 g).adopt hD gD b0 mD r h
theorem qf5 {g:T} {t:ET} {e:E} {ρ:Ev} {ds:List D} {i:Nat} {d:D} (h:ds[i]? = some d) (acc:List D) (m:Mem):compL g t e ρ (ds.drop i) acc m=match g d ρ with
  | none=>.bad
  | some ρ'=>match t ρ' m with
   | .ok true m=>(match e ρ' m with
    | .ok y m=>if acc.length < LN then compL g t e ρ (ds.drop (i+1)) (acc++[y]) m else .bad
    | _=>.bad)
   | .ok false m=>compL g t e ρ (ds.drop (i+1)) acc m
   | _=>.bad:=by
 have e:ds.drop i=d::ds.drop (i+1):=by
  obtain ⟨h1,h2⟩:=waj.mp h
  rw [← h2]
  exact (List.drop_eq_getElem_cons h1)
 rw [e]
 rfl
abbrev Ct.inn (c:Ct) (B:Hp):Ct:={ c with B:=B,W:=fun _ _ _ _=>False }
theorem qjQ {M:Bool} {f:EL} {g:T} {sl vs:List Nat} {t:ET} {e:E} (hsl:(sl.all fun i=>decide (i∈vs))=true):∀ (σ:L2.St) (H:Hp) (Q:VK),rE c (eComp M f g t e vs) σ H Q →
  tLc (rIt c f) (fun v σ H Q=>∃ B,rG (c.inn B) sl g v σ H Q) (fun σ H Q=>∃ B,rT (c.inn B) t σ H Q) (fun σ H Q=>∃ B,rE (c.inn B) e σ H Q) vs σ H Q:=by
 rintro σ H Q ⟨ρ,m,G,μ,S,h⟩
 refine ⟨ρ,m,G,μ,S,?_⟩
 have h:PostE c G μ ρ σ Q ((f ρ m).bind fun ds m=>(compL g t e (wipeE ρ vs) ds [] m).bind fun ys m=>mkL M ys m):=h
 cases ef:f ρ m with
 | bad=>rw [ef] at h; exact h
 | exc x m1=>rw [ef] at h; exact fun cc dd H1 G1 μ1 S1 g1 x1=>h cc dd H1 G1 μ1 S1 g1 x1
 | ok ds m1=>
  rw [ef] at h
  have h:PostE c G μ ρ σ Q ((compL g t e (wipeE ρ vs) ds [] m1).bind fun ys m=>mkL M ys m):=h
  intro J H1 G1 μ1 S1 g1 wk P hP
  obtain ⟨gP,bP,mP⟩:=S1.mem.fresh hP
  have g0:c.G0 P=none:=S1.mem.g0.free gP
  refine lc_it (g:=fun v σ H Q=>∃ B,rG (c.inn B) sl g v σ H Q) (tt:=fun σ H Q=>∃ B,rT (c.inn B) t σ H Q) (te:=fun σ H Q=>∃ B,rE (c.inn B) e σ H Q) (vs:=vs) (σ:=σ) (Qd:=fun H=>Q (.ref P) H) wk (fun i H=>∃ acc av m G μ,Sim (c.acc P av) G μ (wipeE ρ vs) m (wipe σ vs) H∧RepL c.K c.mg c.xo G μ acc av∧Gr G1 μ1 G μ∧PostE c G μ ρ σ Q ((compL g t e (wipeE ρ vs) (ds.drop i) acc m).bind fun ys m=>mkL M ys m))
   ⟨[],[],m1,G1,μ1,S1.blk hP vs,.nil,Gr.refl,h.weak g1⟩ (fun i H _ ⟨_,_,_,G,μ,S,_,g,_⟩=>g.g.trans S.mem.gh) ?_ ?_
  ·rintro i x H H' hi ⟨acc,av,m,G,μ,S,ra,gg,h⟩ y
   obtain ⟨d,G',hd,S2,g2,r⟩:=YD.sim (c:=c.acc P av) S gg y
   rw [qf5 hd] at h
   have h:=h.weak g2
   cases eg:g d (wipeE ρ vs) with
   | none=>rw [eg] at h; exact h.elim
   | some ρ'=>
    rw [eg] at h
    simp only at h
    refine ⟨_,d,wipeE ρ vs,ρ',m,G',μ,S2,r,eg,fun σ' S3 hw=>⟨?_,?_⟩⟩
    ·rw [hw vs fun i hi=>by simpa using (wag.mp hsl) i hi,qgu]
    ·refine ⟨_,ρ',m,G',μ,S3,?_⟩
     cases et:t ρ' m with
     | bad=>rw [et] at h; exact h.elim
     | exc x3 m3=>rw [et] at h; exact h.elim
     | ok b m3=>
      rw [et] at h
      intro H3 G3 μ3 S4 g3
      have h:=h.weak g3
      cases b with
      | false=>
       rw [if_neg wak]
       exact ⟨acc,av,m3,G3,μ3,S.gr S4.mem (g2.trans g3),ra.gr (g2.trans g3),(gg.trans g2).trans g3,h⟩
      | true=>
       rw [if_pos rfl]
       refine ⟨_,ρ',m3,G3,μ3,S4,?_⟩
       simp only at h
       cases ee:e ρ' m3 with
       | bad=>rw [ee] at h; exact h.elim
       | exc x3 m4=>rw [ee] at h; exact h.elim
       | ok yd m4=>
        rw [ee] at h
        simp only at h
        split at h
        ·rename_i hlen
         intro yv H4 G4 μ4 S5 ry g4
         have hl:=ra.length
         refine ⟨av,S5.mem.bh P _ upd_same,by rw [← hl,sizeLine_eq]; exact hlen,acc++[yd],av++[yv],m4,G4,μ4,(S.gr S5.mem ((g2.trans g3).trans g4)).blkMore g0,(ra.gr ((g2.trans g3).trans g4)).append (.cons ry .nil),((gg.trans g2).trans g3).trans g4,h.weak g4⟩
        ·exact h.elim
  ·rintro H ⟨acc,av,m,G,μ,S,ra,gg,h⟩
   rw [List.drop_length] at h
   exact S.blkEnd g0 bP S1 gg ra h
theorem qjR {k:Nat} {M:Bool} {elt tg iter:Expr} {ifs:List Expr} {scope:Scope} {own:List (Str × Nat)} {pos:Pos} {f:EL} {g:T} {sl:List Nat} {t:ET} {e:E} (F:Fit X c k) (hi:PI X tg iter (rIt c f)) (ok:BlkOk X.N X.env.scope scope own) (hsl:(sl.all fun i=>decide (i∈own.map (·.2)))=true)
  (hg:∀ (B:Hp) (s:Shared) (H:Hp) (C:Addr) (cl:List (Str × Addr)) (fp:List Addr),Fit (X.blk s H scope (compEnvC scope cl C X.env) fp) (c.inn B) k→PG (X.blk s H scope (compEnvC scope cl C X.env) fp) tg (rG (c.inn B) sl g))
  (ht:∀ (B:Hp) (s:Shared) (H:Hp) (C:Addr) (cl:List (Str × Addr)) (fp:List Addr),Fit (X.blk s H scope (compEnvC scope cl C X.env) fp) (c.inn B) k→PTs (X.blk s H scope (compEnvC scope cl C X.env) fp) ifs (rT (c.inn B) t))
  (he:∀ (B:Hp) (s:Shared) (H:Hp) (C:Addr) (cl:List (Str × Addr)) (fp:List Addr),Fit (X.blk s H scope (compEnvC scope cl C X.env) fp) (c.inn B) k→PE (X.blk s H scope (compEnvC scope cl C X.env) fp) elt (rE (c.inn B) e))
  (hs:∀ x,foldedSetIterable iter X.env x=pure x:=by intro _; rfl) :
  PE X (.ListComp elt [⟨tg,iter,ifs,0⟩] scope pos) (rE c (eComp M f g t e (own.map (·.2)))):=by
 have fit:∀ (B:Hp) (s:Shared) (H:Hp) (C:Addr) (cl:List (Str × Addr)) (fp:List Addr),Fit (X.blk s H scope (compEnvC scope cl C X.env) fp) (c.inn B) k:=fun B s H C cl fp=>⟨F.K,F.mg,F.w,F.calm,takes0,.never,F.rm,F.nd⟩
 refine (pe_lc (g:=fun v σ H Q=>∃ B,rG (c.inn B) sl g v σ H Q) (tt:=fun σ H Q=>∃ B,rT (c.inn B) t σ H Q) (te:=fun σ H Q=>∃ B,rE (c.inn B) e σ H Q) F.calm F.nd hi ok
  (fun s H C cl fp=>⟨fun pins s' σ H' v u Q I r ⟨B,q⟩=>(hg B s H C cl fp (fit B s H C cl fp)).run pins s' σ H' v u Q I r q⟩)
  (fun s H C cl fp=>⟨fun pins s' σ H' Q I ⟨B,q⟩=>(ht B s H C cl fp (fit B s H C cl fp)).run pins s' σ H' Q I q⟩)
  (fun s H C cl fp=>⟨fun pins s' σ H' Q I ⟨B,q⟩=>(he B s H C cl fp (fit B s H C cl fp)).run pins s' σ H' Q I q⟩) hs).imp (qjQ hsl)
def spD (K:PySem.W.Frag) (mg:Str→Option Value) (w:World) (n:Nat) (f:F):Sp:=fun vs H Q E=>vs.length=n∧∃ ds m B G μ,MemOk ⟨K,mg,w,none,B,G,fun _ _ _ _=>False⟩ G μ m H∧RepL K mg none G μ ds vs∧match f ds m with
 | .ok d m'=>∀ v H' G' μ',MemOk ⟨K,mg,w,none,B,G,fun _ _ _ _=>False⟩ G' μ' m' H'→Gr G μ G' μ'→Rep K mg none G' μ' d v→Q v H'
 | .exc e m'=>∀ cc dd H' G' μ',MemOk ⟨K,mg,w,none,B,G,fun _ _ _ _=>False⟩ G' μ' m' H'→Gr G μ G' μ'→ExcAt mg e cc dd G'→E cc dd H'
 | .bad=>False
structure Callee (P:Program) (w:World) (K:PySem.W.Frag) (mg:Str→Option Value) (base:Heap) (k:Nat) (x:Str) (n:Nat) (f:F):Prop where
 ex:∃ a fd ps,FnOk P w K mg base (L2.CX P w) k a fd ps (spD K mg w n f)∧mg x=some (.ref a)∧PySem.W.keepIn K (.ref a)=true∧Binds K fd ps []
theorem MemOk.w {W:WX} (h:MemOk c G μ m H):MemOk { c with W:=W } G μ m H:=
 ⟨h.gh,h.bh,h.g0,h.gb,h.ml,h.nd,fun n a k e1 e2=>CellOk.reB (c:=c) rfl rfl rfl rfl (fun b hb _=>hb) (h.cell n a k e1 e2),h.used,h.mb,h.tb⟩
theorem MemOk.ct {c c' : Ct} (hK:c'.K=c.K) (hm:c'.mg=c.mg) (hw:c'.w=c.w) (hx:c'.xo=c.xo) (hB:c'.B=c.B) (hG:c'.G0=c.G0) (h:MemOk c G μ m H):MemOk c' G μ m H:=
 ⟨h.gh,hB ▸ h.bh,hG ▸ h.g0,fun a o e1 e2=>h.gb a o (hB ▸ e1) (hG ▸ e2),h.ml,h.nd,fun n a k e1 e2=>CellOk.reB hK hm hw hx (fun b hb _=>hB ▸ hb) (h.cell n a k e1 e2),h.used,fun a ha=>hB ▸ h.mb a ha,fun p hp=>hB ▸ h.tb p hp⟩
theorem qnx {P:Program} {w:World} {K:PySem.W.Frag} {mg:Str→Option Value} {base:Heap} {x qual:Str} {st:Stmt} {a:Addr} {fd:FuncData} {N ps:List Str} {k:Nat} {b:S} {n:Nat}
  (Fn:Fun K x qual st a fd) (Sc:FnScope N ps (defScope st)) (hn:ps.length=n)
  (hbody:∀ (c:Ct) (xo:c.xo=none) (cdv:Value) (A:Around) (outer:List Env) (s:Shared) (H:Hp) (E:XK),Fit (cxOf (L2.CX P w) P w K mg base N qual (defScope st) a cdv A outer s H E) c k →
   PSs (cxOf (L2.CX P w) P w K mg base N qual (defScope st) a cdv A outer s H E) (defBody st) (rS c b)) :
  FnOk P w K mg base (L2.CX P w) (k+1) a fd ps (spD K mg w n (runDef N.length b)):=by
 refine Fn.okX Sc (fun vs H Q E h=>h.1.trans hn.symm) (fun cdv A outer s H vs Q E hr h=>?_)
 obtain ⟨hl,ds,m,B,G,μ,M,R1,h⟩:=h
 refine ⟨rS ⟨K,mg,w,none,B,G,fun cc d _ H=>E cc d H⟩ b,hbody _ rfl cdv A outer s H E ⟨rfl,rfl,rfl,rfl,takes_of rfl rfl rfl rfl,passes_of rfl,hr,Sc.nd⟩,ds.map some++List.replicate (N.length - ds.length) none,m,G,μ,⟨M.w,fun i d e=>?_,?_⟩,?_⟩
 ·by_cases hi:i < ds.length
  ·rw [waq (by simpa using hi),wal] at e
   have e:ds[i]? = some d:=by
    cases q:ds[i]? with
    | none=>rw [q] at e; simp at e
    | some z=>rw [q] at e; simpa using e
   obtain ⟨v,hv,r⟩:=R1.get e
   refine ⟨v,?_,r⟩
   unfold L2.start
   rw [waq (by rw [waa,← R1.length]; exact hi),wal,hv]
   rfl
  ·rw [waH (by simpa using hi)] at e
   obtain ⟨h1,h2⟩:=waj.mp e
   rw [List.getElem_replicate] at h2
   cases h2
 ·unfold L2.start
  simp [R1.length]
 ·have h:match (b (ds.map some++List.replicate (N.length - ds.length) none) m).end with
   | .ok d m'=>∀ v H' G' μ',MemOk ⟨K,mg,w,none,B,G,fun _ _ _ _=>False⟩ G' μ' m' H'→Gr G μ G' μ'→Rep K mg none G' μ' d v→Q v H'
   | .exc e m'=>∀ cc dd H' G' μ',MemOk ⟨K,mg,w,none,B,G,fun _ _ _ _=>False⟩ G' μ' m' H'→Gr G μ G' μ'→ExcAt mg e cc dd G'→E cc dd H'
   | .bad=>False:=h
  cases eb:b (ds.map some++List.replicate (N.length - ds.length) none) m with
  | nx ρ3 m3=>
   rw [eb] at h
   exact fun σ3 H3 G3 μ3 S3 g3=>h .non H3 G3 μ3 S3.mem.w g3 .non
  | rt d3 m3=>
   rw [eb] at h
   exact fun v H3 G3 μ3 M3 g3 r3=>h v H3 G3 μ3 M3.w g3 r3
  | exc x3 ρ3 m3=>
   rw [eb] at h
   exact fun cc dd σ3 H3 G3 μ3 S3 g3 x1=>h cc dd H3 G3 μ3 S3.mem.w g3 x1
  | bk ρ3 m3=>rw [eb] at h; exact h.elim
  | ct ρ3 m3=>rw [eb] at h; exact h.elim
  | bad=>rw [eb] at h; exact h.elim
theorem qai {P:Program} {w:World} {K:PySem.W.Frag} {mg:Str→Option Value} {base:Heap} {x qual:Str} {st:Stmt} {a:Addr} {fd:FuncData} {ps:List Str} {k:Nat} {f:F} {y:Str} {n:Nat}
  (Fn:Fun K x qual st a fd) (hmg:mg y=some (.ref a)) (hb:Binds K fd ps []) (h:FnOk P w K mg base (L2.CX P w) k a fd ps (spD K mg w n f)):Callee P w K mg base k y n f:=⟨a,fd,ps,h,hmg,Fn.kp,hb⟩
theorem Sim.after {B' G' : Hp} {μ' : List Addr} {m' : Mem} {W' : WX} {H' : Hp} (S:Sim c G μ ρ m σ H) (M:MemOk ⟨c.K,c.mg,c.w,none,hid H,G,W'⟩ G' μ' m' H'):Sim c G' μ ρ m σ H'∧Gr G μ G' μ:=by
 have hs:∀ b o,H b=some o→¬ IsTab b→H' b=some o:=fun b o e n=>M.bh b o ((qdo n).trans e)
 have gs:Same G G':=M.g0
 have gb:∀ a o,H a=some o→¬ IsTab a→G a=none→G' a=none:=fun a o e n q=>M.gb a o ((qdo n).trans e) q
 have nB:∀ {a o},c.B a=some o→¬ IsTab a:=fun e=>qfj S.mem.tb e
 have nM:∀ {a},a∈μ→¬ IsTab a:=fun e=>qcJ S.mem.tb e
 have g:Gr G μ G' μ:=⟨gs,wai _⟩
 refine ⟨S.gr ⟨M.gh,fun a o e=>hs a o (S.mem.bh a o e) (nB e),S.mem.g0.trans gs,fun a o e1 e2=>gb a o (S.mem.bh a o e1) (nB e1) (S.mem.gb a o e1 e2),S.mem.ml,S.mem.nd,fun n a k e1 e2=>?_,fun a ha=>?_,S.mem.mb,fun p hp=>⟨(M.tb p hp).g,(S.mem.tb p hp).b,(S.mem.tb p hp).m,(M.tb p hp).t⟩⟩ g,g⟩
 ·have hm:=waf e1
  have ha:=S.mem.used a hm
  refine CellOk.mono g (fun q=>?_) (fun b e q=>gb b _ e (qcV S.mem.tb e (fun _ z=>by cases z)) q) (fun b u hw e=>hs b u e ?_) (S.mem.cell n a k e1 e2)
  ·cases q2:H a with
   | none=>exact absurd q2 ha
   | some o=>exact gb a o q2 (nM hm) q
  ·rcases hw with hw | hw
   ·exact hw ▸ nM hm
   ·exact qcV S.mem.tb e (fun _ z=>by rw [hw] at z; cases z)
 ·have h1:=S.mem.used a ha
  cases q2:H a with
  | none=>exact absurd q2 h1
  | some o=>rw [hs a o q2 (nM ha)]; simp
theorem MemOk.enter {W' : WX} (M:MemOk c G μ m H):MemOk ⟨c.K,c.mg,c.w,none,hid H,G,W'⟩ G [] [] H:=
 ⟨M.gh,qbR,Same.refl _,fun a o _ q=>q,rfl,wbw,fun n a k e=>by simp at e,fun a ha=>by simp at ha,fun a ha=>by simp at ha,fun p hp=>(M.tb p hp).up (Same.refl _) (M.tb p hp).g (if_pos ⟨p,hp,rfl⟩) (by simp) rfl⟩
theorem qgx {H:Hp} {a:Addr} (n:¬ IsTab a) (h:hid H a=none):H a=none:=by
 rw [qdo n] at h
 exact h
theorem qgy {M:Bool} {n:Nat} {f:F} {l:EL} (hx:c.xo=none):∀ (σ:L2.St) (H:Hp) (Q:VK),rE c (eCall M n f l) σ H Q→tCallSD (spD c.K c.mg c.w n f) [] (WE c.W) (rL c l) σ H Q:=by
 rintro σ H Q ⟨ρ,m,G,μ,S,h⟩
 refine qa4 S h fun ds m1 vs H1 G1 μ1 S1 R1 g1 h1=>?_
 split at h1
 ·rename_i hd
  obtain ⟨hl,hd⟩:=hd
  rw [wa0]
  have M0:MemOk ⟨c.K,c.mg,c.w,none,hid H1,G1,fun _ _ _ _=>False⟩ G1 [] [] H1:=S1.mem.enter
  refine ⟨by rw [← R1.length]; exact hl,ds,[],hid H1,G1,[],M0,(hx ▸ R1).off hd,?_⟩
  cases ef:f ds [] with
  | bad=>rw [ef] at h1; exact h1.elim
  | exc e m'=>
   rw [ef] at h1
   intro cc dd H' G' μ' M' g' x'
   obtain ⟨S2,g2⟩:=S1.after (B':=H1) M'
   exact h1 cc dd H' G' μ1 S2 g2 x'
  | ok d m'=>
   rw [ef] at h1
   intro v H' G' μ' M' g' r'
   obtain ⟨S2,g2⟩:=S1.after (B':=H1) M'
   have plain:noLoc d=true∧M=false→PostE c G1 μ1 ρ σ Q (.ok d m1)→Q v H':=fun hn h1=>h1 v H' G' μ1 S2 (Rep.mono (Same.refl _) (wai _) (.inl rfl) (r'.off hn.1)) g2
   cases d with
   | loc j=>
    simp only at h1
    split at h1
    ·rename_i xs hj
     split at h1
     ·rename_i hxs
      cases r' with
      | loc hμ=>
       rename_i a
       obtain ⟨ga,ba,ws,ha,rx⟩:=M'.cell j a _ hμ hj
       have ba:H1 a=none:=qgx (qcJ M'.tb (waf hμ)) ba
       have rx:RepL c.K c.mg none G' μ' xs ws:=rx
       exact S2.adopt ha ga (S1.mem.bh.free ba) (fun z=>S1.mem.used a z ba) (RepL.mono (Same.refl _) (wai _) (.inl rfl) (rx.off hxs)) (h1.weak g2)
     ·exact h1.elim
    ·exact h1.elim
   | _=>
    simp only at h1
    split at h1
    ·rename_i hn
     exact plain hn h1
    ·exact h1.elim
 ·exact h1.elim
theorem qa9 {M:Bool} {k j n:Nat} {f:F} {l:EL} {x:Str} {p pos:Pos} {e:Expr} {es:List Expr} (F:Fit X c k) (hxo:c.xo=none) (C:Callee X.prog X.w X.K X.mg X.base j x n f) (hj:j≤k) (hg:Gl X x) (ha:PA X (e::es) (rL c l)) (hdb:(x == ("__debug__" : Str))=false:=by decide)
  (he:starEach (e::es) X.env=(false,eval e X.env)::starEach es X.env:=by rfl) (hpl:(backTo pos (starEach es X.env)).any (·.1)=false:=by rfl):PE X (.Call (.Name x p) (e::es) [] pos) (rE c (eCall M n f l)):=by
 obtain ⟨a,fd,ps,h1,h2,h3,h4⟩:=C.ex
 have h1:FnOk X.prog X.w X.K X.mg X.base (L2.CX X.prog X.w) j a fd ps (spD c.K c.mg c.w n f):=by
  rw [F.K,F.mg,F.w]
  exact h1
 exact (pe_callSD (E:=WE c.W) h1 (F.rm.mono hj) hg h2 h3 h4 .nil (fun σ=>passAt F.tk σ) ha hdb he hpl).imp (qgy hxo)
end
end TT

set_option maxHeartbeats 2000000
namespace TT
open PySem PySem.Spec PyProof.Rows L2
variable [TabI]
section
variable {X:Cx} {c:Ct} {G:Hp} {μ:List Addr} {ρ:Ev} {m:Mem} {σ:L2.St} {H:Hp}
theorem qbS (n:Nat):(∃ xs,m[n]? = some (.lst xs)∧view m (.loc n) = .lst xs)∨(∃ ps,m[n]? = some (.dct ps)∧view m (.loc n) = .dct ps)∨view m (.loc n) = .loc n:=by
 cases e:m[n]? with
 | none=>exact .inr (.inr (by simp [view,e]))
 | some k=>
  cases k with
  | lst xs=>exact .inl ⟨xs,rfl,by simp [view,e]⟩
  | dct ps=>exact .inr (.inl ⟨ps,rfl,by simp [view,e]⟩)
  | dcT ps=>exact .inr (.inr (by simp [view,e]))
  | dcN ps=>exact .inr (.inr (by simp [view,e]))
  | dcF ps=>exact .inr (.inr (by simp [view,e]))
  | obj n fs=>exact .inr (.inr (by simp [view,e]))
  | dead=>exact .inr (.inr (by simp [view,e]))
  | fn k=>exact .inr (.inr (by simp [view,e]))
theorem qam {x y:D} (h:view m x=y) (hy:∀ xs,y≠.lst xs) (hy2:∀ ps,y≠.dct ps) (hy3:∀ n,y≠.loc n):x=y:=by
 cases x with
 | loc n=>
  rcases qbS (m:=m) n with ⟨xs,_,e⟩ | ⟨ps,_,e⟩ | e
  ·exact absurd (h.symm.trans e) (hy xs)
  ·exact absurd (h.symm.trans e) (hy2 ps)
  ·exact absurd (h.symm.trans e) (hy3 n)
 | _=>exact h
theorem qaA {x:D} {u:V} {i:Int} (r:Rep c.K c.mg c.xo G μ x u) (h:view m x = .int i):u = .int i:=by
 obtain rfl:=qam h (by intro _ q; cases q) (by intro _ q; cases q) (by intro _ q; cases q)
 cases r
 rfl
theorem qbE {x:D} {u:V} {i:Str} (r:Rep c.K c.mg c.xo G μ x u) (h:view m x = .str i):u = .str i∧okS i=true:=by
 obtain rfl:=qam h (by intro _ q; cases q) (by intro _ q; cases q) (by intro _ q; cases q)
 cases r with
 | str _ h=>exact ⟨rfl,h⟩
theorem v_bl {x:D} {u:V} {i:Bool} (r:Rep c.K c.mg c.xo G μ x u) (h:view m x = .bl i):u = .bl i:=by
 obtain rfl:=qam h (by intro _ q; cases q) (by intro _ q; cases q) (by intro _ q; cases q)
 cases r
 rfl
theorem qf6 {x:D} {u:V} (r:Rep c.K c.mg c.xo G μ x u) (h:view m x = .non):u = .non:=by
 obtain rfl:=qam h (by intro _ q; cases q) (by intro _ q; cases q) (by intro _ q; cases q)
 cases r
 rfl
theorem v_ty {x:D} {u:V} {n:String} (r:Rep c.K c.mg c.xo G μ x u) (h:view m x = .ty n):u = .ty n:=by
 obtain rfl:=qam h (by intro _ q; cases q) (by intro _ q; cases q) (by intro _ q; cases q)
 cases r
 rfl
theorem qbT {x:D} {u:V} {xs:List D} (M:MemOk c G μ m H) (r:Rep c.K c.mg c.xo G μ x u) (h:view m x = .tup xs):∃ a vs,u = .ref a∧SqT c.K H a vs∧RepL c.K c.mg c.xo G μ xs vs:=by
 obtain rfl:=qam h (by intro _ q; cases q) (by intro _ q; cases q) (by intro _ q; cases q)
 cases r with
 | tup hs ha=>exact ⟨_,_,rfl,SqT.of (M.gh _ _ hs),ha⟩
theorem qbm {x:D} {u:V} {xs:List D} (M:MemOk c G μ m H) (r:Rep c.K c.mg c.xo G μ x u) (h:view m x = .lst xs):∃ a vs,u = .ref a∧SqL c.K H a vs∧RepL c.K c.mg c.xo G μ xs vs:=by
 cases x with
 | loc n=>
  rcases qbS (m:=m) n with ⟨ys,e1,e⟩ | ⟨ps,_,e⟩ | e
  ·obtain rfl:ys=xs:=by simpa using e.symm.trans h
   cases r with
   | loc hμ=>
    obtain ⟨_,_,vs,h1,h2⟩:=M.cell _ _ _ hμ e1
    exact ⟨_,vs,rfl,SqL.of h1,h2⟩
  ·cases e.symm.trans h
  ·cases e.symm.trans h
 | lst ys=>
  obtain rfl:ys=xs:=by simpa [view] using h
  cases r with
  | lst hs ha=>exact ⟨_,_,rfl,M.gh.seq hs,ha⟩
 | _=>cases h
theorem qlv {u:V} {xs:List D} (r:Rep c.K c.mg c.xo G μ (.lst xs) u):∃ a vs,u = .ref a∧SqL c.K G a vs∧RepL c.K c.mg c.xo G μ xs vs:=by
 cases r with
 | lst hs ha=>exact ⟨_,_,rfl,hs,ha⟩

def rCatL (K:PySem.W.Frag):R2:=fun x y H Q=>∃ a b xs ys,x = .ref a∧y = .ref b∧SqL K H a xs∧SqL K H b ys∧xs.length+ys.length≤sizeLine∧∀ p,H p=none→Q (.ref p) (upd H p (.lst (xs++ys)))
theorem qjS:OpR X (binaryOp .Add) (rCatL X.K):=by
 intro pins s σ H x y v u Q I rx ry ⟨a,b,xs,ys,ex,ey,ha,hb,hz,q⟩
 subst ex ey
 cases rx
 cases ry
 obtain ⟨its,r,⟨⟨cls,dd,data,sl⟩,n,ho,hc,hd,hs⟩,_⟩:=I.list ha
 obtain ⟨its2,r2,⟨⟨cls2,dd2,data2,sl2⟩,n2,ho2,hc2,hd2,hs2⟩,_⟩:=I.list hb
 simp only at hc hd hs hc2 hd2 hs2
 subst hc hd hs hc2 hd2 hs2
 have e:its.toArray++its2.toArray=(its++its2).toArray:=by simp
 have l1:=r.length
 have l2:=r2.length
 refine concat_meets ⟨_,ho,rfl⟩ ⟨_,ho2,rfl⟩ noFill_list_add seq_list_add PySem.F.slot_list_add PySem.F.entry_list_add (PySem.F.args_list_add_2 _ _)
  (list_addW a b its.toArray its2.toArray n n2 none none sl sl2 (by simp only [waW]; omega)) ⟨ho,ho2,?_⟩
 rw [e]
 exact ⟨.ref _,_,I.lnew (t':=s.toks) (r.append r2) (by rw [wao]; omega),rfl,q _ I.fresh⟩

abbrev rrAdd (K:PySem.W.Frag):R2:=fun x y H Q=>rI0 (fun i j=>.int (i+j)) x y H Q∨((∃ i j,x = .str i∧y = .str j∧i.length+j.length≤sizeLine∧Q (.str (i++j)) H)∨(rCatL K x y H Q∨rCatA K x y H Q))
theorem qlw:OpR X (binaryOp .Add) (rrAdd X.K):=op_add.or (op_add_str.or (qjS.or op_catA))
theorem qb6 {x y:Str} (h:okS x=true) (h' : okS y=true):okS (x++y)=true:=by
 unfold okS at h h' ⊢
 show ((x.cps++y.cps).all _)=true
 rw [Array.all_append,h,h']
 rfl
theorem qjT:OpSim c dAdd (rrAdd c.K):=by
 intro G μ ρ m σ H x y d u v Q S r1 r2 e k
 generalize e1:view m x=x' at e
 generalize e2:view m y=y' at e
 unfold dAdd at e
 split at e
 ·cases e
  exact .inl ⟨_,_,qaA r1 e1,qaA r2 e2,k _ _ _ _ S (.int _) Gr.refl⟩
 ·split at e
  ·rename_i hl
   cases e
   obtain ⟨q1,o1⟩:=qbE r1 e1
   obtain ⟨q2,o2⟩:=qbE r2 e2
   exact .inr (.inl ⟨_,_,q1,q2,by rw [sizeLine_eq]; exact hl,k _ _ _ _ S (.str _ (qb6 o1 o2)) Gr.refl⟩)
  ·cases e
 ·split at e
  ·rename_i hl
   cases e
   obtain ⟨a,vs,ea,ha,ra⟩:=qbm S.mem r1 e1
   obtain ⟨b,ws,eb,hb,rb⟩:=qbm S.mem r2 e2
   refine .inr (.inr (.inl ⟨a,b,vs,ws,ea,eb,ha,hb,by rw [← ra.length,← rb.length,sizeLine_eq]; exact hl,fun p hp=>?_⟩))
   obtain ⟨S2,g2⟩:=S.alloc hp (.lst (vs++ws))
   exact k _ _ _ _ S2 (.lst (SqL.of upd_same) ((ra.append rb).gr g2)) g2
  ·cases e
 ·split at e
  ·rename_i hl
   cases e
   obtain ⟨a,vs,ea,ha,ra⟩:=qbT S.mem r1 e1
   obtain ⟨b,ws,eb,hb,rb⟩:=qbT S.mem r2 e2
   obtain rfl:=qam e1 (by intro _ q; cases q) (by intro _ q; cases q) (by intro _ q; cases q)
   obtain rfl:=qam e2 (by intro _ q; cases q) (by intro _ q; cases q) (by intro _ q; cases q)
   have l1:=ra.length
   have l2:=rb.length
   refine .inr (.inr (.inr ⟨a,b,vs,ws,ea,eb,ha,hb,by rw [← l1,← l2,sizeLine_eq]; exact hl,fun q=>?_,fun _ q=>?_,fun _ _ p hp=>?_⟩))
   ·subst q
    cases ra
    exact k _ _ _ _ S (eb ▸ r2) Gr.refl
   ·subst q
    cases rb
    rw [wa0] at k
    exact k _ _ _ _ S (ea ▸ r1) Gr.refl
   ·obtain ⟨S2,g2⟩:=S.alloc hp (.tup (vs++ws))
    exact k _ _ _ _ S2 (.tup upd_same ((ra.append rb).gr g2)) g2
  ·cases e
 ·cases e
theorem qjU:OpSim c dSub (rI0 fun i j=>.int (i - j)):=by
 intro G μ ρ m σ H x y d u v Q S r1 r2 e k
 generalize e1:view m x=x' at e
 generalize e2:view m y=y' at e
 unfold dSub at e
 split at e
 ·cases e
  exact ⟨_,_,qaA r1 e1,qaA r2 e2,k _ _ _ _ S (.int _) Gr.refl⟩
 ·cases e
theorem qjV:OpSim c dMod (L2.rI (fun _ j=>0 < j) fun i j=>.int (i % j)):=by
 intro G μ ρ m σ H x y d u v Q S r1 r2 e k
 generalize e1:view m x=x' at e
 generalize e2:view m y=y' at e
 unfold dMod at e
 split at e
 ·split at e
  ·rename_i hl
   cases e
   exact ⟨_,_,qaA r1 e1,qaA r2 e2,hl,k _ _ _ _ S (.int _) Gr.refl⟩
  ·cases e
 ·cases e
theorem qjW:OpSim c dDiv (rI CDivW fun i j=>.int (i / j)):=by
 intro G μ ρ m σ H x y d u v Q S r1 r2 e k
 generalize e1:view m x=x' at e
 generalize e2:view m y=y' at e
 unfold dDiv at e
 split at e
 ·split at e
  ·rename_i hl
   cases e
   have hb:(2:Nat) ^ 100=1267650600228229401496703205376:=by decide +kernel
   have h2:=hl.2
   exact ⟨_,_,qaA r1 e1,qaA r2 e2,wide_div (b:=100) hl.1 (by rw [hb]; omega) (by omega) (by omega),k _ _ _ _ S (.int _) Gr.refl⟩
  ·cases e
 ·cases e
theorem qjX:OpSim c dPow (rI CPow fun i j=>.int (i ^ j.toNat)):=by
 intro G μ ρ m σ H x y d u v Q S r1 r2 e k
 generalize e1:view m x=x' at e
 generalize e2:view m y=y' at e
 unfold dPow at e
 split at e
 ·split at e
  ·rename_i hl
   cases e
   exact ⟨_,_,qaA r1 e1,qaA r2 e2,hl,k _ _ _ _ S (.int _) Gr.refl⟩
  ·cases e
 ·cases e
theorem RepL.rep {ds:List D} {vs:List V} (h:RepL c.K c.mg c.xo G μ ds vs):∀ k:Nat,RepL c.K c.mg c.xo G μ (List.replicate k ds).flatten (List.replicate k vs).flatten
 | 0=>.nil
 | k+1=>by
  rw [wbh,wbh,wbl,wbl]
  exact h.append (RepL.rep h k)
def rRepL (K:PySem.W.Frag):R2:=fun x y H Q=>∃ l k xs,x = .ref l∧y = .int k∧SqL K H l xs∧-(2 ^ 63)≤k∧k < 2 ^ 63∧xs.length * k.toNat≤sizeLine∧∀ p,H p=none→Q (.ref p) (upd H p (.lst (List.replicate k.toNat xs).flatten))
theorem qjY:OpR X (binaryOp .Mult) (rRepL X.K):=by
 intro pins s σ H x y v u Q I rx ry ⟨l,k,xs,ex,ey,hl,h1,h2,hz,q⟩
 subst ex ey
 cases rx
 obtain ⟨t,rfl⟩:=ry
 obtain ⟨its,r,⟨⟨cls,dd,data,sl⟩,n,ho,hc,hd,hs⟩,_⟩:=I.list hl
 simp only at hc hd hs
 subst hc hd hs
 have hsz:its.toArray.size=xs.length:=by rw [waW]; exact r.length.symm
 have big:(sizeLine:Nat)≤(2 ^ 63 - 1) / 8:=by decide
 have c0:¬ (!Builtin.List.listFitsIndex k)=true:=by rw [fitsIndex_both h1 h2]; exact wak
 have c1:¬ its.toArray.size * k.toNat > (2 ^ 63 - 1) / 8:=by rw [hsz]; omega
 have c2:¬ Builtin.List.listTooLong (its.toArray.size * k.toNat)=true:=by rw [hsz,notLongL hz]; exact wak
 have flat:∀ j:Nat,List.foldl (fun x1 x2=>x1++x2) #[] (List.replicate j its.toArray)=(List.replicate j its).flatten.toArray:=fun j=>by simpa using foldl_rep its j []
 have new:List.foldl (fun x1 x2=>x1++x2) #[] (List.replicate (if its.toArray.isEmpty=true then 0 else k.toNat) its.toArray)=(List.replicate k.toNat its).flatten.toArray:=by
  rw [flat]
  cases its with
  | nil=>simp
  | cons a r'=>simp
 have dn:Meets (Builtin.«list.__mul__» ⟨[.ref l,.int k t],[]⟩) _:=lm_list_mul_any l its.toArray n none sl k t c0 c1 c2
 refine wpAny_binaryOp_repeat_ref (T:="list") (U:="int") (by decide) ⟨_,ho,rfl⟩ (fun s'=>typeIs_int s' k t) noFill_list_mul
  F.fills_int_mul F.slot_int_rmul repeat_list F.slot_int_index.lookup (call_meets F.slot_int_rmul (typeIs_int s k t) F.entry_int_rmul (F.args_int_rmul_2 _ _) (lm_int_rmul_list_any k t l its.toArray n none sl) ⟨ho,?_⟩)
 refine ⟨rfl,⟨_,ho,rfl⟩,call_meets F.slot_list_mul ⟨_,ho,rfl⟩ F.entry_list_mul (F.args_list_mul_2 _ _) dn ⟨ho,?_⟩⟩
 rw [new]
 exact ⟨.ref _,_,I.lnew (t':=s.toks) (r.rep k.toNat) (by rw [PyProof.Rows.lm_len_rep_flat,Nat.mul_comm]; exact hz),rfl,q _ I.fresh⟩
def rRepS:R2:=fun x y H Q=>∃ (s:Str) (k:Int),x = .str s∧y = .int k∧-1000000≤k∧k≤1000000∧s.length * k.toNat≤sizeLine∧Q (.str ⟨(List.replicate k.toNat s.cps.toList).flatten.toArray⟩) H
theorem qgz (x:Str) (n:Nat):(List.replicate n x.cps).foldl (fun a b=>a++b) #[]=(List.replicate n x.cps.toList).flatten.toArray:=by
 have go:∀ (n:Nat) (acc:List Nat),(List.replicate n x.cps).foldl (fun a b=>a++b) acc.toArray=(acc++(List.replicate n x.cps.toList).flatten).toArray:=by
  intro n
  induction n with
  | zero=>intro acc; simp
  | succ n ih=>
   intro acc
   rw [wbh,wbh,List.foldl_cons,wbl]
   have e:acc.toArray++x.cps=(acc++x.cps.toList).toArray:=by
    apply wbn.mp
    simp
   rw [e,ih,List.append_assoc]
 simpa using go n []
theorem qjZ:OpR X (binaryOp .Mult) rRepS:=by
 intro pins s σ H x y v u Q I rx ry ⟨a,k,ex,ey,h1,h2,hz,q⟩
 subst ex ey
 obtain ⟨t,rfl⟩:=rx
 obtain ⟨t2,rfl⟩:=ry
 have hp:(2:Int) ^ 63=9223372036854775808:=by decide +kernel
 refine PySem.P.mul_str (by
  rw [decide_eq_false (by rw [hp]; omega),decide_eq_false (by rw [hp]; omega)]; rfl) (fun k1 k2=>?_) (fun _ _=>?_) ?_
 ·intro hc
  have hk:(1000000:Int)≤1000000:=by omega
  have hlen:a.length≤16777216∨k.toNat=0:=by
   by_cases hk0:k.toNat=0
   ·exact .inr hk0
   ·left
    have:a.length * 1≤a.length * k.toNat:=Nat.mul_le_mul_left _ (by omega)
    have hz:a.length * k.toNat≤16777216:=by rw [← sizeLine_eq]; exact hz
    omega
  have hd:(9223372036854:Int)≤(2 ^ 63 - 1) / k:=by
   rw [hp]
   exact Int.le_ediv_of_mul_le (by omega) (by omega)
  omega
 ·show decide (a.length * k.toNat > sizeLine)=false
  rw [decide_eq_false_iff_not]
  omega
 ·by_cases h3:k < 1
  ·rw [if_pos h3]
   have e0:k.toNat=0:=by omega
   rw [e0] at q
   exact ⟨by decide,⟨.str ⟨#[]⟩,H,I.tok _,⟨_,rfl⟩,q⟩⟩
  ·rw [if_neg h3]
   by_cases h4:(k == 1 || a.length == 0)=true
   ·rw [if_pos h4]
    refine ⟨.str a,H,I,⟨_,rfl⟩,?_⟩
    have e:(⟨(List.replicate k.toNat a.cps.toList).flatten.toArray⟩:Str)=a:=by
     obtain ⟨⟨l⟩⟩:=a
     rw [wa5,beq_iff_eq,beq_iff_eq] at h4
     rcases h4 with rfl | h4
     ·simp
     ·have h4:l.length=0:=h4
      obtain rfl:=wbb h4
      simp
    rw [e] at q
    exact q
   ·rw [if_neg h4]
    refine ⟨?_,⟨.str _,H,I.tok _,⟨_,rfl⟩,?_⟩⟩
    ·rw [qgz]
     show ((List.replicate k.toNat a.cps.toList).flatten.toArray).size≤sizeLine
     have:a.cps.toList.length=a.length:=wap
     simp
     rw [Nat.mul_comm] at hz
     exact hz
    ·rw [qgz]
     exact q
theorem qeI (l:Addr) (items:Array Value) (n:Nat) (dd:Option Addr) (sl:Array (Option Value)) (u:Tok) (x:Int) (hx:x=1) (c0:(decide (x < -(2 ^ 63)) || decide (x≥2 ^ 63))=false) (c1:(items.isEmpty || x == 1)=true) :
  Meets (Builtin.«tuple.__mul__» ⟨[.ref l,.int x u],[]⟩) (fun _ R s=>s.heap.get? l=some { cls:=.type "tuple",dict:=dd,data:=.seq items n,slots:=sl } ∧
   R (.ok (.ret (Value.ref l))) s):=
 .of_wp fun prog w A R s h=>by
  obtain ⟨hp,g,d,tk,os⟩:=s
  obtain ⟨hl,h⟩:=h
  have f1:=AutoSeq1.idx_int
  wp_walk using wpAny_loadPart' hl
  repeat (first
   | (refine wpAny_ite_false (decide_eq_false (by rw [c0]; exact wak)) ?_; wp_walk using wpAny_loadPart' hl)
   | (refine wpAny_ite_true (decide_eq_true c1) ?_; wp_walk using wpAny_loadPart' hl))
  exact ⟨_,rfl,h⟩
theorem qeJ (l:Addr) (items:Array Value) (n:Nat) (dd:Option Addr) (sl:Array (Option Value)) (x:Int) (u:Tok) (c0:(decide (x < -(2 ^ 63)) || decide (x≥2 ^ 63))=false) (c1:(items.isEmpty || x == 1)=false) (c2:(decide (x≤0) || items.isEmpty)=true) :
  Meets (Builtin.«tuple.__mul__» ⟨[.ref l,.int x u],[]⟩) (fun _ R s=>s.heap.get? l=some { cls:=.type "tuple",dict:=dd,data:=.seq items n,slots:=sl } ∧
   R (.ok (.ret (Value.ref s.heap.objs.size))) { s with heap:=s.heap.push { cls:=Value.type "tuple",data:=Data.seq #[] },toks:=s.toks }):=
 .of_wp fun prog w A R s h=>by
  obtain ⟨hp,g,d,tk,os⟩:=s
  obtain ⟨hl,h⟩:=h
  have f1:=AutoSeq1.idx_int
  wp_walk using wpAny_loadPart' hl
  repeat (first
   | (refine wpAny_ite_false (decide_eq_false (by rw [c0]; exact wak)) ?_; wp_walk using wpAny_loadPart' hl)
   | (refine wpAny_ite_false (decide_eq_false (by rw [c1]; exact wak)) ?_; wp_walk using wpAny_loadPart' hl)
   | (refine wpAny_ite_true (decide_eq_true c2) ?_; wp_walk using wpAny_loadPart' hl))
  exact ⟨_,rfl,h⟩
def rRepT1 (K:PySem.W.Frag):R2:=fun x y H Q=>∃ l xs,x = .ref l∧y = .int 1∧SqT K H l xs∧Q (.ref l) H
def rRepT0 (K:PySem.W.Frag):R2:=fun x y H Q=>∃ l xs,x = .ref l∧y = .int 0∧SqT K H l xs∧xs≠[]∧∀ p,H p=none→Q (.ref p) (upd H p (.tup []))
theorem qh6:OpR X (binaryOp .Mult) (rRepT1 X.K):=by
 intro pins s σ H x y v u Q I rx ry h
 obtain ⟨l,xs,rfl,rfl,hT,q⟩:=h
 cases rx
 obtain ⟨t,rfl⟩:=ry
 obtain ⟨its,r,⟨⟨cls,dd,data,sl⟩,ho,hc,n,hd⟩,hs⟩:=I.tuple hT
 simp only at hc hd
 subst hc hd
 have c1:(its.toArray.isEmpty || (1:Int) == 1)=true:=by rw [wa5]; exact .inr rfl
 exact wpAny_binaryOp_repeat_ref (T:="tuple") (U:="int") (by decide) ⟨_,ho,rfl⟩ (fun s'=>typeIs_int s' 1 t) noFill_tuple_mul F.fills_int_mul F.slot_int_rmul repeat_tuple F.slot_int_index.lookup
  (call_meets F.slot_int_rmul (typeIs_int s 1 t) F.entry_int_rmul (F.args_int_rmul_2 _ _) (int_rmul_tuple 1 t l its.toArray n dd sl)
   ⟨ho,rfl,⟨_,ho,rfl⟩,call_meets F.slot_tuple_mul ⟨_,ho,rfl⟩ F.entry_tuple_mul (F.args_tuple_mul_2 _ _) (qeI l its.toArray n dd sl t 1 rfl (by decide +kernel) c1) ⟨ho,⟨.ref l,H,I,rfl,q⟩⟩⟩)
theorem qh7:OpR X (binaryOp .Mult) (rRepT0 X.K):=by
 intro pins s σ H x y v u Q I rx ry h
 obtain ⟨l,xs,rfl,rfl,hT,hne,q⟩:=h
 cases rx
 obtain ⟨t,rfl⟩:=ry
 obtain ⟨its,r,⟨⟨cls,dd,data,sl⟩,ho,hc,n,hd⟩,hs⟩:=I.tuple hT
 simp only at hc hd
 subst hc hd
 have hle:its.length=xs.length:=r.length.symm
 have hi:its.toArray.isEmpty=false:=by
  cases its with
  | nil=>exact absurd (wbb hle.symm) hne
  | cons a b=>rfl
 have c1:(its.toArray.isEmpty || (0:Int) == 1)=false:=by rw [hi]; rfl
 have c2:(decide ((0:Int)≤0) || its.toArray.isEmpty)=true:=by rw [wa5]; exact .inl (by decide)
 exact wpAny_binaryOp_repeat_ref (T:="tuple") (U:="int") (by decide) ⟨_,ho,rfl⟩ (fun s'=>typeIs_int s' 0 t) noFill_tuple_mul F.fills_int_mul F.slot_int_rmul repeat_tuple F.slot_int_index.lookup
  (call_meets F.slot_int_rmul (typeIs_int s 0 t) F.entry_int_rmul (F.args_int_rmul_2 _ _) (int_rmul_tuple 0 t l its.toArray n dd sl)
   ⟨ho,rfl,⟨_,ho,rfl⟩,call_meets F.slot_tuple_mul ⟨_,ho,rfl⟩ F.entry_tuple_mul (F.args_tuple_mul_2 _ _) (qeJ l its.toArray n dd sl 0 t (by decide +kernel) c1 c2) ⟨ho,⟨.ref s.heap.objs.size,_,I.laid (t':=s.toks) (o:=.tup []) (fun b ob q=>Heap.get?_push_of_some _ q) (waL _) ⟨by rw [sizeLine_eq]; exact waN _,_,.nil,IsTup.new _ _⟩,rfl,q _ (I.hok.fresh (waL _))⟩⟩⟩)
abbrev rrMul (K:PySem.W.Frag):R2:=fun x y H Q=>rI CMul (fun i j=>.int (i * j)) x y H Q∨(rRepL K x y H Q∨(rRepT K x y H Q∨(rRepS x y H Q∨(rRepT1 K x y H Q∨rRepT0 K x y H Q))))
theorem qlx:OpR X (binaryOp .Mult) (rrMul X.K):=op_mul.or (qjY.or (op_repT.or (qjZ.or (qh6.or qh7))))
theorem qj0:OpSim c dMul (rrMul c.K):=by
 intro G μ ρ m σ H x y d u v Q S r1 r2 e k
 generalize e1:view m x=x' at e
 generalize e2:view m y=y' at e
 unfold dMul at e
 split at e
 ·split at e
  ·rename_i hl
   cases e
   exact .inl ⟨_,_,qaA r1 e1,qaA r2 e2,hl,k _ _ _ _ S (.int _) Gr.refl⟩
  ·cases e
 ·split at e
  ·rename_i hl
   cases e
   obtain ⟨a,vs,ea,ha,ra⟩:=qbm S.mem r1 e1
   refine .inr (.inl ⟨a,_,vs,ea,qaA r2 e2,ha,hl.1,hl.2.1,by rw [← ra.length,sizeLine_eq]; exact hl.2.2,fun p hp=>?_⟩)
   obtain ⟨S2,g2⟩:=S.alloc hp (.lst (List.replicate _ vs).flatten)
   exact k _ _ _ _ S2 (.lst (SqL.of upd_same) ((ra.rep _).gr g2)) g2
  ·cases e
 ·split at e
  ·rename_i hl
   cases e
   obtain ⟨a,vs,ea,ha,ra⟩:=qbT S.mem r1 e1
   have hl0:=ra.length
   have hne:vs≠[]:=fun q=>hl.1 (by subst q; exact wbb hl0)
   obtain ⟨h1,h2,h3,h4⟩:=hl
   rename_i xs kk
   by_cases k2:2≤kk
   ·refine .inr (.inr (.inl ⟨a,_,vs,ea,qaA r2 e2,ha,hne,k2,h3,by rw [← hl0]; exact h4,fun p hp=>?_⟩))
    obtain ⟨S2,g2⟩:=S.alloc hp (.tup (List.replicate _ vs).flatten)
    exact k _ _ _ _ S2 (.tup upd_same ((ra.rep _).gr g2)) g2
   ·by_cases k1:kk=1
    ·subst k1
     refine .inr (.inr (.inr (.inr (.inl ⟨a,vs,ea,qaA r2 e2,ha,?_⟩))))
     have hx:x = .tup xs:=qam e1 (fun _ h=>nomatch h) (fun _ h=>nomatch h) (fun _ h=>nomatch h)
     have er:(List.replicate (1:Int).toNat xs).flatten=xs:=by
      show ([xs]:List (List D)).flatten=xs
      simp
     rw [er,← hx] at k
     rw [← ea]
     exact k _ _ _ _ S r1 Gr.refl
    ·obtain rfl:kk=0:=by omega
     refine .inr (.inr (.inr (.inr (.inr ⟨a,vs,ea,qaA r2 e2,ha,hne,fun p hp=>?_⟩))))
     obtain ⟨S2,g2⟩:=S.alloc hp (.tup [])
     exact k _ _ _ _ S2 (.tup upd_same .nil) g2
  ·cases e
 ·split at e
  ·rename_i hl
   cases e
   obtain ⟨q1,o1⟩:=qbE r1 e1
   refine .inr (.inr (.inr (.inl ⟨_,_,q1,qaA r2 e2,hl.1,hl.2.1,by rw [sizeLine_eq]; exact hl.2.2,k _ _ _ _ S (.str _ ?_) Gr.refl⟩)))
   unfold okS at o1 ⊢
   simp at o1 ⊢
   exact .inr o1
  ·cases e
 ·cases e

mutual
def toPy:D→PyData
 | .non=>.none
 | .bl b=>.bool b
 | .int i=>.int i
 | .str s=>.str s
 | .lst xs=>.list (toPyL xs)
 | .tup xs=>.tuple (toPyL xs)
 | .dct _=>.none
 | .obj _ _=>.none
 | .exc _ _=>.none
 | .cls _=>.none
 | .ty _=>.none
 | .loc _=>.none
def toPyL:List D→List PyData
 | []=>[]
 | x::xs=>toPy x::toPyL xs
end
mutual
theorem Rep.py {n:Nat}:∀ {d:D} {v:V},Rep c.K c.mg c.xo G μ d v→dataN n d=true→Dp c.K G v (toPy d)∧(toPy d).canLay0=true∧(toPy d).depth≤n
 | _,_,.non,_=>⟨.non,rfl,waN _⟩
 | _,_,.bl b,_=>⟨.bl b,rfl,waN _⟩
 | _,_,.int i,_=>⟨.int i,rfl,waN _⟩
 | _,_,.str s h,_=>⟨.str s,h,waN _⟩
 | _,_,.lst (ds:=ds) h t,e=>by
  cases n with
  | zero=>simp [dataN] at e
  | succ n=>
   have e' : ds.all (dataN n)=true:=by simpa [dataN] using e
   obtain ⟨h1,h2,h3⟩:=RepL.py (n:=n) t e'
   exact ⟨.lst h h1,h2,wbB h3⟩
 | _,_,.tup (ds:=ds) h t,e=>by
  cases n with
  | zero=>simp [dataN] at e
  | succ n=>
   have e' : ds.all (dataN n)=true:=by simpa [dataN] using e
   obtain ⟨h1,h2,h3⟩:=RepL.py (n:=n) t e'
   exact ⟨.tup (SqT.of h) h1,h2,wbB h3⟩
 | _,_,.dct _ _,e=>by cases n <;> simp [dataN] at e
 | _,_,.obj _ _ _ _,e=>by cases n <;> simp [dataN] at e
 | _,_,.exc _ _,e=>by cases n <;> simp [dataN] at e
 | _,_,.cls _,e=>by cases n <;> simp [dataN] at e
 | _,_,.ty _,e=>by cases n <;> simp [dataN] at e
 | _,_,.loc _,e=>by cases n <;> simp [dataN] at e
theorem RepL.py {n:Nat}:∀ {ds:List D} {vs:List V},RepL c.K c.mg c.xo G μ ds vs→ds.all (dataN n)=true→DpAll c.K G vs (toPyL ds)∧PyData.canLayAll0 (toPyL ds)=true∧PyData.depthAll (toPyL ds)≤n
 | _,_,.nil,_=>⟨.nil,rfl,waN _⟩
 | _,_,.cons (d:=d) (ds:=ds) h t,e=>by
  have e' : dataN n d=true∧ds.all (dataN n)=true:=by simpa using e
  obtain ⟨h1,h2,h3⟩:=Rep.py h e'.1
  obtain ⟨k1,k2,k3⟩:=RepL.py t e'.2
  refine ⟨.cons h1 k1,?_,Nat.max_le.mpr ⟨h3,k3⟩⟩
  show (PyData.canLay0 (toPy d) && PyData.canLayAll0 (toPyL ds))=true
  rw [h2,k2]
  rfl
end
theorem qdp:∀ (n k:Nat) (d e:D),dataN n d=true→dataN k e=true→eqvD d e=PyData.eqv (toPy d) (toPy e):=by
 intro n
 induction n with
 | zero=>
  intro k d e h h'
  cases d <;> simp [dataN] at h <;> cases e <;> first | rfl | (cases k <;> simp [dataN] at h')
 | succ n ih=>
  have lists:∀ (k:Nat) (xs ys:List D),xs.all (dataN n)=true→ys.all (dataN k)=true→eqvL xs ys=PyData.eqvAll (toPyL xs) (toPyL ys):=by
   intro k xs
   induction xs with
   | nil=>
    intro ys _ _
    cases ys with
    | nil=>simp only [eqvL,toPyL,PyData.eqvAll]
    | cons y ys=>simp only [eqvL,toPyL,PyData.eqvAll]
   | cons x xs ihx=>
    intro ys h h'
    cases ys with
    | nil=>simp only [eqvL,toPyL,PyData.eqvAll]
    | cons y ys=>
     have h1:dataN n x=true∧xs.all (dataN n)=true:=by simpa using h
     have h2:dataN k y=true∧ys.all (dataN k)=true:=by simpa using h'
     show (eqvD x y && eqvL xs ys)=(PyData.eqv (toPy x) (toPy y) && PyData.eqvAll (toPyL xs) (toPyL ys))
     rw [ih k x y h1.1 h2.1,ihx ys h1.2 h2.2]
  intro k d e h h'
  cases d with
  | lst xs=>
   have hx:xs.all (dataN n)=true:=by simpa [dataN] using h
   cases e with
   | lst ys=>
    cases k with
    | zero=>simp [dataN] at h'
    | succ k=>
     have hy:ys.all (dataN k)=true:=by simpa [dataN] using h'
     simp only [eqvD,toPy,PyData.eqv]
     exact lists k xs ys hx hy
   | _=>first | (simp only [eqvD,toPy,PyData.eqv]; done) | (cases k <;> simp [dataN] at h')
  | tup xs=>
   have hx:xs.all (dataN n)=true:=by simpa [dataN] using h
   cases e with
   | tup ys=>
    cases k with
    | zero=>simp [dataN] at h'
    | succ k=>
     have hy:ys.all (dataN k)=true:=by simpa [dataN] using h'
     simp only [eqvD,toPy,PyData.eqv]
     exact lists k xs ys hx hy
   | _=>first | (simp only [eqvD,toPy,PyData.eqv]; done) | (cases k <;> simp [dataN] at h')
  | non=>cases e <;> first | rfl | (cases k <;> simp [dataN] at h')
  | bl b=>cases e <;> first | rfl | (cases k <;> simp [dataN] at h')
  | int b=>cases e <;> first | rfl | (cases k <;> simp [dataN] at h')
  | str b=>cases e <;> first | rfl | (cases k <;> simp [dataN] at h')
  | dct _=>simp [dataN] at h
  | obj _ _=>simp [dataN] at h
  | exc _ _=>simp [dataN] at h
  | cls _=>simp [dataN] at h
  | ty _=>simp [dataN] at h
  | loc _=>simp [dataN] at h
theorem qec {d:PyData} {n:Nat} (h1:d.canLay0=true) (h2:d.depth≤n) (hn:n≤64):SeqAt.shaped d=true:=by
 unfold SeqAt.shaped
 rw [h1,decide_eq_true (wbr h2 hn)]
 rfl
mutual
theorem _root_.L2.Dp.mono {K:PySem.W.Frag} {H H' : Hp} (s:Same H H'):∀ {v:V} {d:PyData},Dp K H v d→Dp K H' v d
 | _,_,.non=>.non
 | _,_,.bl b=>.bl b
 | _,_,.int i=>.int i
 | _,_,.str x=>.str x
 | _,_,.lst h t=>.lst (s.seq h) (L2.DpAll.mono s t)
 | _,_,.tup h t=>.tup (Same.tupS s h) (L2.DpAll.mono s t)
theorem _root_.L2.DpAll.mono {K:PySem.W.Frag} {H H' : Hp} (s:Same H H'):∀ {v:List V} {d:List PyData},DpAll K H v d→DpAll K H' v d
 | _,_,.nil=>.nil
 | _,_,.cons h t=>.cons (L2.Dp.mono s h) (L2.DpAll.mono s t)
end
theorem qbF {x y:D} {u:V} (M:MemOk c G μ m H) (r:Rep c.K c.mg c.xo G μ x u) (h:view m x=y) (hd:isData y=true):Dp c.K H u (toPy y)∧SeqAt.shaped (toPy y)=true:=by
 have tree:Rep c.K c.mg c.xo G μ y u→Dp c.K H u (toPy y)∧SeqAt.shaped (toPy y)=true:=fun r=>by
  obtain ⟨h1,h2,h3⟩:=r.py hd
  exact ⟨h1.mono M.gh,qec h2 h3 (by decide)⟩
 cases x with
 | loc n=>
  rcases qbS (m:=m) n with ⟨ys,e1,e⟩ | ⟨ps,_,e⟩ | e
  ·obtain rfl:y = .lst ys:=h.symm.trans e
   have hd' : ys.all (dataN 15)=true:=by simpa [isData,dataN] using hd
   cases r with
   | loc hμ=>
    obtain ⟨_,_,vs,h1,h2⟩:=M.cell _ _ _ hμ e1
    obtain ⟨k1,k2,k3⟩:=h2.py hd'
    exact ⟨.lst (SqL.of h1) (k1.mono M.gh),qec (d:=.list (toPyL ys)) (n:=16) k2 (wbB k3) (by decide)⟩
  ·obtain rfl:y = .dct ps:=h.symm.trans e
   simp [isData,dataN] at hd
  ·obtain rfl:y = .loc n:=h.symm.trans e
   simp [isData,dataN] at hd
 | _=>
  have e:_=y:=h
  subst e
  exact tree r
theorem qfo {x:D} {u:V} (M:MemOk c G μ m H) (r:Rep c.K c.mg c.xo G μ x u) (h:view m x = .dct []):∃ a,u = .ref a∧H a=some (.dK []):=by
 have hp:∀ {kvs:List (Key × V)},RepP c.K c.mg c.xo G μ [] kvs→kvs=[]:=fun h=>by cases h; rfl
 cases x with
 | loc n=>
  rcases qbS (m:=m) n with ⟨ys,e1,e⟩ | ⟨ps,e1,e⟩ | e
  ·cases e.symm.trans h
  ·obtain rfl:ps=[]:=by simpa using e.symm.trans h
   cases r with
   | loc hμ=>
    obtain ⟨_,_,kvs,h1,h2⟩:=M.cell _ _ _ hμ e1
    rw [hp h2] at h1
    exact ⟨_,rfl,h1⟩
  ·cases e.symm.trans h
 | dct ps=>
  obtain rfl:ps=[]:=by simpa [view] using h
  cases r with
  | dct h1 h2=>
   rw [hp h2] at h1
   exact ⟨_,rfl,M.gh _ _ h1⟩
 | _=>cases h
def rD0 (b:Bool):R2:=fun x y H Q=>∃ a a',x = .ref a∧y = .ref a'∧H a=some (.dK [])∧H a' = some (.dK [])∧Q (.bl b) H
theorem qj1 (hu:X.A.units < cLine):OpR X (compareOp .Eq) (rD0 true):=by
 intro pins s σ H x y v u Q I rx ry ⟨a,b,ex,ey,ha,hb,q⟩
 subst ex ey
 cases (show v=Value.ref a from rx)
 cases (show u=Value.ref b from ry)
 obtain ⟨_,ya,va,ra,da⟩:=(show ObjOk X.prog X.w H s.heap a (.dK []) from I.hok a _ ha)
 obtain ⟨_,yb,vb,rb,db⟩:=(show ObjOk X.prog X.w H s.heap b (.dK []) from I.hok b _ hb)
 cases ra
 cases rb
 exact PySem.W.keq_eq (knd:=mixKind X.prog X.w) (r:=true) ya yb da db hu (fun _=>.nil) ⟨.bl true,H,I,rfl,q⟩
theorem qj2 (hu:X.A.units < cLine):OpR X (compareOp .NotEq) (rD0 false):=by
 intro pins s σ H x y v u Q I rx ry ⟨a,b,ex,ey,ha,hb,q⟩
 subst ex ey
 cases (show v=Value.ref a from rx)
 cases (show u=Value.ref b from ry)
 obtain ⟨_,ya,va,ra,da⟩:=(show ObjOk X.prog X.w H s.heap a (.dK []) from I.hok a _ ha)
 obtain ⟨_,yb,vb,rb,db⟩:=(show ObjOk X.prog X.w H s.heap b (.dK []) from I.hok b _ hb)
 cases ra
 cases rb
 exact PySem.W.keq_ne (knd:=mixKind X.prog X.w) (r:=true) ya yb da db hu (fun _=>.nil) ⟨.bl false,H,I,rfl,q⟩
abbrev rrEq (K:PySem.W.Frag):R2:=fun x y H Q=>rEqD K x y H Q∨rD0 true x y H Q
abbrev rrNe (K:PySem.W.Frag):R2:=fun x y H Q=>rNeD K x y H Q∨rD0 false x y H Q
theorem qed {x y:D} {k:Bool} (e:noDct x y=some k):x = .dct []∧y = .dct []∧k=true:=by
 unfold noDct at e
 split at e
 ·cases e
  exact ⟨rfl,rfl,rfl⟩
 ·cases e
theorem qjb:CmpSim c dEq (rrEq c.K):=by
 intro G μ ρ m σ H x y k u v Q S r1 r2 e q
 generalize e1:view m x=x' at e
 generalize e2:view m y=y' at e
 unfold dEq at e
 split at e
 ·rename_i hd
  cases e
  obtain ⟨a1,a2⟩:=qbF S.mem r1 e1 hd.1
  obtain ⟨b1,b2⟩:=qbF S.mem r2 e2 hd.2
  exact .inl ⟨_,_,a1,b1,a2,b2,by rw [← qdp 16 16 x' y' hd.1 hd.2]; exact q⟩
 ·obtain ⟨rfl,rfl,rfl⟩:=qed e
  obtain ⟨a,q1,h1⟩:=qfo S.mem r1 e1
  obtain ⟨b,q2,h2⟩:=qfo S.mem r2 e2
  exact .inr ⟨a,b,q1,q2,h1,h2,q⟩
theorem qly:CmpSim c dNe (rrNe c.K):=by
 intro G μ ρ m σ H x y k u v Q S r1 r2 e q
 generalize e1:view m x=x' at e
 generalize e2:view m y=y' at e
 unfold dNe dEq at e
 split at e
 ·rename_i hd
  cases e
  obtain ⟨a1,a2⟩:=qbF S.mem r1 e1 hd.1
  obtain ⟨b1,b2⟩:=qbF S.mem r2 e2 hd.2
  exact .inl ⟨_,_,a1,b1,a2,b2,by rw [← qdp 16 16 x' y' hd.1 hd.2]; exact q⟩
 ·obtain ⟨k',e3,rfl⟩:=wad.mp e
  obtain ⟨rfl,rfl,rfl⟩:=qed e3
  obtain ⟨a,q1,h1⟩:=qfo S.mem r1 e1
  obtain ⟨b,q2,h2⟩:=qfo S.mem r2 e2
  exact .inr ⟨a,b,q1,q2,h1,h2,q⟩
theorem qjc:CmpSim c dLt (rI0 fun i j=>.bl (decide (i < j))):=by
 intro G μ ρ m σ H x y k u v Q S r1 r2 e q
 generalize e1:view m x=x' at e
 generalize e2:view m y=y' at e
 unfold dLt at e
 split at e
 ·cases e
  exact ⟨_,_,qaA r1 e1,qaA r2 e2,q⟩
 ·cases e
theorem qcm:CmpSim c dLe (rI0 fun i j=>.bl (decide (i≤j))):=by
 intro G μ ρ m σ H x y k u v Q S r1 r2 e q
 generalize e1:view m x=x' at e
 generalize e2:view m y=y' at e
 unfold dLe at e
 split at e
 ·cases e
  exact ⟨_,_,qaA r1 e1,qaA r2 e2,q⟩
 ·cases e
theorem qlz:CmpSim c dGt (rI0 fun i j=>.bl (decide (j < i))):=by
 intro G μ ρ m σ H x y k u v Q S r1 r2 e q
 generalize e1:view m x=x' at e
 generalize e2:view m y=y' at e
 unfold dGt at e
 split at e
 ·cases e
  exact ⟨_,_,qaA r1 e1,qaA r2 e2,q⟩
 ·cases e
theorem qlA:CmpSim c dGe (rI0 fun i j=>.bl (decide (j≤i))):=by
 intro G μ ρ m σ H x y k u v Q S r1 r2 e q
 generalize e1:view m x=x' at e
 generalize e2:view m y=y' at e
 unfold dGe at e
 split at e
 ·cases e
  exact ⟨_,_,qaA r1 e1,qaA r2 e2,q⟩
 ·cases e

def isV:V→V→Option Bool
 | .non,.non=>some true
 | .bl a,.bl b=>some (decide (a=b))
 | .non,.bl _=>some false
 | _,_=>none
def rIsF (neg:Bool):R2:=fun x y H Q=>(y = .non∧Q (.bl (if neg then !decide (x = .non) else decide (x = .non))) H)∨∃ k,isV x y=some k∧Q (.bl (if neg then !k else k)) H
theorem qjd:OpR X (compareOp .Is) (rIsF false):=by
 intro pins s σ H x y v u Q I rx ry h
 rcases h with ⟨e,q⟩ | ⟨k,e,q⟩
 ·exact op_isN pins s σ H x y v u Q I rx ry ⟨e,q⟩
 ·unfold isV at e
  split at e
  ·cases e
   exact op_isN pins s σ H .non .non v u Q I rx ry ⟨rfl,q⟩
  ·cases e
   exact op_isBl pins s σ H _ _ v u Q I rx ry ⟨_,_,rfl,rfl,q⟩
  ·cases e
   cases (show v=Value.none from rx)
   cases ry
   exact wpAny_is_other rfl (fun z=>nomatch z) ⟨.bl false,H,I,rfl,q⟩
  ·cases e
theorem qj3 {x' y' : D} {x y:D} {u v:V} {k:Bool} (r1:Rep c.K c.mg c.xo G μ x u) (r2:Rep c.K c.mg c.xo G μ y v) (e1:view m x=x') (e2:view m y=y') (e:dIs x' y' = some k) :
  (v = .non∧k=decide (u = .non))∨isV u v=some k:=by
 have ref:∀ x:D,(∀ u,Rep c.K c.mg c.xo G μ x u→u≠.non)→True:=fun _ _=>trivial
 have nn:∀ {z:D},view m x=z→(match z with | .non=>False | _=>True)→u≠.non:=by
  intro z hz hn q
  subst q
  cases r1 with
  | non=>subst hz; exact hn
 unfold dIs at e
 split at e
 all_goals first
  | (cases e; done)
  | (cases e; exact .inr (by rw [v_bl r1 e1,v_bl r2 e2]; rfl))
  | (cases e; exact .inr (by rw [qf6 r1 e1,v_bl r2 e2]; rfl))
  | (cases e; exact .inl ⟨qf6 r2 e2,by rw [qf6 r1 e1]; rfl⟩)
  | (cases e; exact .inl ⟨qf6 r2 e2,(decide_eq_false (nn e1 trivial)).symm⟩)
theorem qje:CmpSim c dIs (rIsF false):=by
 intro G μ ρ m σ H x y k u v Q S r1 r2 e q
 rcases qj3 r1 r2 rfl rfl e with ⟨h1,h2⟩ | h
 ·exact .inl ⟨h1,by rw [← h2]; exact q⟩
 ·exact .inr ⟨k,h,q⟩
def rSgn (neg:Bool):R2:=fun x y H Q=>∃ (c:Nat) (z:Str),x = .str ⟨#[c]⟩∧y = .str z∧Q (.bl (if neg then !decide (c∈z.cps.toList) else decide (c∈z.cps.toList))) H
abbrev rrIn (K:PySem.W.Frag):R2:=fun x y H Q=>rSgn false x y H Q∨(rInD K x y H Q∨rIn K false x y H Q)
abbrev rrNotIn (K:PySem.W.Frag):R2:=fun x y H Q=>rSgn true x y H Q∨(rNotInD K x y H Q∨rIn K true x y H Q)
theorem qny {k:Nat} (F:Fit X c k):OpR X (compareOp .In) (rrIn X.K):=
 (show OpR X (compareOp .In) (rSgn false) from op_in_sign).or ((op_inD (by have:=F.rm.un; omega)).or op_in_seq)
theorem qh8 {k:Nat} (F:Fit X c k):OpR X (compareOp .NotIn) (rrNotIn X.K):=
 (show OpR X (compareOp .NotIn) (rSgn true) from op_notIn_sign).or ((op_notInD (by have:=F.rm.un; omega)).or op_notIn_seq)
theorem qjf {x:D} {u:V} (h:flatB x=true) (r:Rep c.K c.mg c.xo G μ x u):flatV u=true:=by
 cases x <;> simp [flatB] at h <;> cases r <;> rfl
theorem qh9 {x y:D} {u v:V} (h:flatB x=true) (h' : flatB y=true) (r:Rep c.K c.mg c.xo G μ x u) (r' : Rep c.K c.mg c.xo G μ y v):eqvD x y=eqV u v:=by
 cases x <;> simp [flatB] at h <;> cases r <;> cases y <;> simp [flatB] at h' <;> cases r' <;> simp only [eqvD,eqV]
theorem qia {x:D} {u:V} (h:flatB x=true) (r:Rep c.K c.mg c.xo G μ x u):∀ (ys:List D) (vs:List V),ys.all flatB=true→RepL c.K c.mg c.xo G μ ys vs→vs.all flatV=true∧(ys.any fun y=>eqvD y x)=inV u vs:=by
 intro ys
 induction ys with
 | nil=>
  intro vs _ rl
  cases rl
  exact ⟨rfl,rfl⟩
 | cons d ds ih=>
  intro vs hy rl
  cases rl with
  | cons ry rt=>
   have hy' : flatB d=true∧ds.all flatB=true:=by simpa using hy
   obtain ⟨h1,h2⟩:=ih _ hy'.2 rt
   refine ⟨by rw [List.all_cons,qjf hy'.1 ry,h1]; rfl,?_⟩
   unfold inV at h2 ⊢
   rw [waX,waX,h2,qh9 hy'.1 h ry r]
theorem qjg {x:D} (h:isData x=true):∀ {ys:List D},ys.all (dataN 15)=true→(ys.any fun y=>eqvD y x)=((toPyL ys).any fun z=>PyData.eqv z (toPy x))
 | [],_=>rfl
 | y::ys,hy=>by
  have hy' : dataN 15 y=true∧ys.all (dataN 15)=true:=by simpa using hy
  rw [toPyL,waX,waX,qjg h hy'.2,qdp 15 16 y x hy'.1 h]
theorem qgA {x y:D} {k:Bool} {u v:V} (S:Sim c G μ ρ m σ H) (r1:Rep c.K c.mg c.xo G μ x u) (r2:Rep c.K c.mg c.xo G μ y v) (e:dIn (view m x) (view m y)=some k) :
  (∃ (cc:Nat) (z:Str),u = .str ⟨#[cc]⟩∧v = .str z∧k=decide (cc∈z.cps.toList)) ∨
   ((∃ d ds,Dp c.K H u d∧Dp c.K H v (.list ds)∧SeqAt.shaped d=true∧SeqAt.shaped (.list ds)=true∧k=ds.any fun z=>PyData.eqv z d) ∨
    ∃ p xs,v = .ref p∧(SqL c.K H p xs∨SqT c.K H p xs)∧flatV u=true∧xs.all flatV=true∧k=inV u xs):=by
 generalize e1:view m x=x' at e
 generalize e2:view m y=y' at e
 unfold dIn at e
 split at e
 ·rename_i z
  split at e
  ·rename_i s
   split at e
   ·rename_i cc hs
    cases e
    obtain ⟨q1,_⟩:=qbE r1 e1
    obtain ⟨q2,_⟩:=qbE r2 e2
    refine .inl ⟨cc,z,?_,q2,rfl⟩
    rw [q1]
    congr 1
    obtain ⟨cs⟩:=s
    have:cs = #[cc]:=by
     apply wbn.mp
     simpa using hs
    rw [this]
   ·cases e
  ·cases e
 ·rename_i ys
  split at e
  ·rename_i hd
   cases e
   obtain ⟨a1,a2⟩:=qbF S.mem r1 e1 hd.1
   obtain ⟨b1,b2⟩:=qbF S.mem r2 e2 hd.2
   refine .inr (.inl ⟨_,_,a1,b1,a2,b2,qjg hd.1 ?_⟩)
   simpa [isData,dataN] using hd.2
  ·cases e
 ·rename_i ys
  split at e
  ·rename_i hd
   cases e
   obtain ⟨p,vs,ev,hv,rv⟩:=qbT S.mem r2 e2
   have hx:flatB x' = true:=hd.1
   have r1' : Rep c.K c.mg c.xo G μ x' u:=by
    obtain rfl:=qam e1 (by intro _ q; rw [q] at hx; cases hx) (by intro _ q; rw [q] at hx; cases hx) (by intro _ q; rw [q] at hx; cases hx)
    exact r1
   obtain ⟨h1,h2⟩:=qia hx r1' _ _ hd.2 rv
   exact .inr (.inr ⟨p,vs,ev,.inr hv,qjf hx r1',h1,h2⟩)
  ·cases e
 ·cases e
theorem qjh:CmpSim c dIn (rrIn c.K):=by
 intro G μ ρ m σ H x y k u v Q S r1 r2 e q
 rcases qgA S r1 r2 e with ⟨cc,z,h1,h2,h3⟩ | ⟨d,ds,h1,h2,h3,h4,h5⟩ | ⟨p,xs,h1,h2,h3,h4,h5⟩
 ·exact .inl ⟨cc,z,h1,h2,by rw [if_neg wak,← h3]; exact q⟩
 ·exact .inr (.inl ⟨d,ds,h1,h2,h3,h4,by rw [← h5]; exact q⟩)
 ·exact .inr (.inr ⟨p,xs,h1,h2,h3,h4,by rw [if_neg wak,← h5]; exact q⟩)
theorem qgB:CmpSim c dNotIn (rrNotIn c.K):=by
 intro G μ ρ m σ H x y k u v Q S r1 r2 e q
 unfold dNotIn at e
 obtain ⟨k',e',rfl⟩:=wad.mp e
 rcases qgA S r1 r2 e' with ⟨cc,z,h1,h2,h3⟩ | ⟨d,ds,h1,h2,h3,h4,h5⟩ | ⟨p,xs,h1,h2,h3,h4,h5⟩
 ·exact .inl ⟨cc,z,h1,h2,by rw [if_pos rfl,← h3]; exact q⟩
 ·exact .inr (.inl ⟨d,ds,h1,h2,h3,h4,by rw [← h5]; exact q⟩)
 ·exact .inr (.inr ⟨p,xs,h1,h2,h3,h4,by rw [if_pos rfl,← h5]; exact q⟩)
end
end TT

set_option maxHeartbeats 2000000
namespace TT
open PySem PySem.Spec PyProof.Rows L2
variable [TabI]
section
variable {X:Cx} {c:Ct} {G:Hp} {μ:List Addr} {ρ:Ev} {m:Mem} {σ:L2.St} {H:Hp}
theorem qdH {s:Str} (h:okS s=true) {j:Nat} {z:Nat} (e:s.cps.toList[j]? = some z):okS ⟨#[z]⟩=true:=by
 unfold okS at h ⊢
 rw [Array.all_eq_true'] at h
 have hz:z∈s.cps:=Array.mem_toList_iff.mp (waf e)
 simpa using h z hz
theorem qlB:OpSim c dIx (rIx c.K):=by
 intro G μ ρ m σ H x y d u v Q S r1 r2 e k
 generalize e1:view m x=x' at e
 generalize e2:view m y=y' at e
 unfold dIx at e
 split at e
 ·rename_i xs i
  obtain ⟨a,vs,ea,ha,ra⟩:=qbm S.mem r1 e1
  obtain ⟨j,h1,h2⟩:=waB.mp e
  obtain ⟨w,hw,rw'⟩:=ra.get h2
  refine .inl ⟨a,vs,i,w,ea,qaA r2 e2,ha,?_,k _ _ _ _ S rw' Gr.refl⟩
  unfold atI
  rw [show ixN vs.length i=some j by rw [← ra.length]; exact h1]
  exact hw
 ·rename_i xs i
  obtain ⟨a,vs,ea,ha,ra⟩:=qbT S.mem r1 e1
  obtain ⟨j,h1,h2⟩:=waB.mp e
  obtain ⟨w,hw,rw'⟩:=ra.get h2
  refine .inr (.inl ⟨a,vs,i,w,ea,qaA r2 e2,ha,?_,k _ _ _ _ S rw' Gr.refl⟩)
  unfold atI
  rw [show ixN vs.length i=some j by rw [← ra.length]; exact h1]
  exact hw
 ·rename_i s i
  split at e
  ·rename_i hl
   obtain ⟨cc,h1,h2⟩:=wad.mp e
   obtain ⟨j,h3,h4⟩:=waB.mp h1
   cases h2
   obtain ⟨q1,o1⟩:=qbE r1 e1
   refine .inr (.inr ⟨s,i,cc,q1,qaA r2 e2,by rw [sizeLine_eq]; exact hl,?_,k _ _ _ _ S (.str _ (qdH o1 h4)) Gr.refl⟩)
   unfold atI
   rw [show ixN s.cps.toList.length i=some j from h3]
   exact h4
  ·cases e
 ·cases e
theorem qap {a b:Expr} {fa fb:E} {pos:Pos} {k:Nat} (F:Fit X c k) (ha:PE X a (rE c fa)) (hb:PE X b (rE c fb)) (hs:PlainIx b:=by exact fun _ _=>rfl):PE X (.Subscript a b pos) (rE c (eOp dIx fa fb)):=
 (pe_ix (r:=rIx c.K) (by rw [F.K]; exact ix_seq) ha hb hs).imp fun _ _ _ h=>qlq qlB h

def rO (c:Ct) (f:EO):TO:=fun σ H Q=>∃ ρ m G μ,Sim c G μ ρ m σ H∧match f ρ m with
 | .ok o m1=>∀ H1 G1 μ1,Sim c G1 μ1 ρ m1 σ H1→Gr G μ G1 μ1→Q o H1
 | .exc e m1=>∀ cc dd H1 G1 μ1,Sim c G1 μ1 ρ m1 σ H1→Gr G μ G1 μ1→ExcAt c.mg e cc dd G1→c.W cc dd σ H1
 | .bad=>False
theorem _root_.L2.PO.imp {e:Option Expr} {t t' : TO} (h:PO X e t) (i:∀ σ H Q,t' σ H Q→t σ H Q):PO X e t':=⟨fun pins s σ H Q I q=>h.run pins s σ H Q I (i σ H Q q)⟩
theorem qj4:PO X none (rO c oNo):=by
 refine po_none.imp ?_
 rintro σ H Q ⟨ρ,m,G,μ,S,h⟩
 exact h _ _ _ S Gr.refl
theorem qgC {f:EO} {k:Option Int→Mem→R D} {Q:VK} {Q' : Option Int→Hp→Prop} (S:Sim c G μ ρ m σ H) (h:PostE c G μ ρ σ Q ((f ρ m).bind k))
  (q:∀ o m1 H1 G1 μ1,Sim c G1 μ1 ρ m1 σ H1→Gr G μ G1 μ1→PostE c G1 μ1 ρ σ Q (k o m1)→Q' o H1):rO c f σ H Q':=by
 refine ⟨ρ,m,G,μ,S,?_⟩
 cases e:f ρ m with
 | ok d m1=>
  rw [e] at h
  exact fun H1 G1 μ1 S1 g1=>q d m1 H1 G1 μ1 S1 g1 (PostE.weak h g1)
 | exc x m1=>
  rw [e] at h
  exact h
 | bad=>
  rw [e] at h
  exact h
theorem qa0 {e:Expr} {f:E} (h:PE X e (rE c f)):PO X (some e) (rO c (oSome f)):=by
 refine (po_some h).imp ?_
 rintro σ H Q ⟨ρ,m,G,μ,S,h⟩
 refine ⟨ρ,m,G,μ,S,?_⟩
 have h:match (f ρ m).bind fun x m=>(match x with | .int i=>R.ok (some i) m | _=>R.bad) with
  | .ok o m1=>∀ H1 G1 μ1,Sim c G1 μ1 ρ m1 σ H1→Gr G μ G1 μ1→Q o H1
  | .exc e m1=>∀ cc dd H1 G1 μ1,Sim c G1 μ1 ρ m1 σ H1→Gr G μ G1 μ1→ExcAt c.mg e cc dd G1→c.W cc dd σ H1
  | .bad=>False:=h
 cases ef:f ρ m with
 | bad=>rw [ef] at h; exact h
 | exc x m1=>rw [ef] at h; exact h
 | ok d m1=>
  rw [ef] at h
  simp only [R.bind_ok] at h
  intro v H1 G1 μ1 S1 R1 g1
  cases d with
  | int i=>
   cases R1
   exact ⟨i,rfl,h H1 G1 μ1 S1 g1⟩
  | _=>exact h.elim
abbrev rrSl (K:PySem.W.Frag):V→Option Int→Option Int→Hp→VK→Prop:=fun x lo hi H Q=>rSlL K x lo hi H Q∨(rSlA K x lo hi H Q∨rSlS x lo hi H Q)
theorem qnz:SlR X (rrSl X.K):=sl_list.or (sl_tupA.or sl_str)
theorem RepL.cut {ds:List D} {vs:List V} (h:RepL c.K c.mg c.xo G μ ds vs) (lo hi:Option Int):RepL c.K c.mg c.xo G μ (cutD ds lo hi) (cutV vs lo hi):=by
 show RepL c.K c.mg c.xo G μ ((ds.drop _).take _) ((vs.drop _).take _)
 rw [h.length]
 exact (h.drop _).take _
theorem qj5 {s:Str} (h:okS s=true) (lo hi:Option Int):okS ⟨(cutD s.cps.toList lo hi).toArray⟩=true:=by
 unfold okS at h ⊢
 rw [Array.all_eq_true'] at h ⊢
 intro z hz
 have hz' : z∈cutD s.cps.toList lo hi:=by simpa using hz
 exact h z (Array.mem_toList_iff.mp (List.mem_of_mem_drop (wba hz')))
theorem qcY {a:Expr} {lo hi:Option Expr} {fa:E} {fl fh:EO} {p2 pos:Pos} {k:Nat} (F:Fit X c k) (ha:PE X a (rE c fa)) (hl:PO X lo (rO c fl)) (hh:PO X hi (rO c fh)):PE X (.Subscript a (.Slice lo hi none p2) pos) (rE c (eCut fa fl fh)):=by
 refine (pe_slice qnz ha hl hh).imp ?_
 rintro σ H Q ⟨ρ,m,G,μ,S,h⟩
 refine qaq S h fun x m1 u H1 G1 μ1 S1 R1 g1 h1=>?_
 refine qgC S1 h1 fun l m2 H2 G2 μ2 S2 g2 h2=>?_
 refine qgC S2 h2 fun hi m3 H3 G3 μ3 S3 g3 h3=>?_
 have R3:=R1.gr (g2.trans g3)
 obtain ⟨d,e,h4⟩:=PostE.of h3
 clear h3
 have h3:=h4
 clear h1 h2 h4
 generalize e1:view m3 x=x' at e
 rw [← F.K]
 unfold dCut at e
 split at e
 ·cases e
  obtain ⟨a,vs,ea,ha,ra⟩:=qbm S3.mem R3 e1
  refine .inl ⟨a,vs,ea,ha,fun p hp=>?_⟩
  obtain ⟨S4,g4⟩:=S3.alloc hp (.lst (cutV vs l hi))
  exact h3 _ _ _ _ S4 (.lst (SqL.of upd_same) ((ra.cut l hi).gr g4)) g4
 ·rename_i xs
  cases e
  obtain ⟨a,vs,ea,ha,ra⟩:=qbT S3.mem R3 e1
  obtain rfl:=qam e1 (by intro _ q; cases q) (by intro _ q; cases q) (by intro _ q; cases q)
  refine .inr (.inl ⟨a,vs,ea,ha,fun hw=>?_,fun _ p hp=>?_⟩)
  ·have ex:cutD xs l hi=xs:=by
    unfold cutD
    have w1:sIxD xs.length 0 l=0:=by rw [ra.length]; exact hw.1
    have w2:sIxD xs.length xs.length hi=xs.length:=by rw [ra.length]; exact hw.2
    rw [w1,w2]
    simp
   rw [ex] at h3
   exact h3 _ _ _ _ S3 (ea ▸ R3) Gr.refl
  ·obtain ⟨S4,g4⟩:=S3.alloc hp (.tup (cutV vs l hi))
   exact h3 _ _ _ _ S4 (.tup upd_same ((ra.cut l hi).gr g4)) g4
 ·rename_i s
  split at e
  ·rename_i hlen
   cases e
   obtain ⟨q1,o1⟩:=qbE R3 e1
   refine .inr (.inr ⟨s,q1,by rw [sizeLine_eq]; exact hlen,?_⟩)
   have ec:cutS s l hi=⟨(cutD s.cps.toList l hi).toArray⟩:=by
    unfold cutS cutD
    rw [wap]
    rfl
   rw [ec]
   exact h3 _ _ _ _ S3 (.str _ (qj5 o1 l hi)) Gr.refl
  ·cases e
 ·cases e
def FunSim (c:Ct) (g:List D→Option D) (r:List V→Hp→VK→Prop):Prop:=∀ G μ ρ m σ H xs us d Q,Sim c G μ ρ m σ H→RepL c.K c.mg c.xo G μ xs us→g (xs.map (view m))=some d →
 (∀ w H' G' μ',Sim c G' μ' ρ m σ H'→Rep c.K c.mg c.xo G' μ' d w→Gr G μ G' μ'→Q w H')→r us H Q
def FunLSim (c:Ct) (g:List D→Option (List D)) (r:List V→Hp→VK→Prop):Prop:=∀ G μ ρ m σ H xs us ys Q,Sim c G μ ρ m σ H→RepL c.K c.mg c.xo G μ xs us→g (xs.map (view m))=some ys →
 (∀ p ws,H p=none→RepL c.K c.mg c.xo G μ ys ws→Q (.ref p) (upd H p (.lst ws)))→r us H Q
theorem qji {g:List D→Option D} {r:List V→Hp→VK→Prop} {l:EL} (hs:FunSim c g r):∀ (σ:L2.St) (H:Hp) (Q:VK),rE c (eFun g l) σ H Q→tCB r (rL c l) σ H Q:=by
 rintro σ H Q ⟨ρ,m,G,μ,S,h⟩
 refine qa4 S h fun xs m1 us H1 G1 μ1 S1 R1 g1 h1=>?_
 obtain ⟨d,e,h1⟩:=PostE.of h1
 exact hs G1 μ1 ρ m1 σ H1 xs us d Q S1 R1 e h1
theorem qj6 {M:Bool} {g:List D→Option (List D)} {r:List V→Hp→VK→Prop} {l:EL} (hs:FunLSim c g r):∀ (σ:L2.St) (H:Hp) (Q:VK),rE c (eFunL M g l) σ H Q→tCB r (rL c l) σ H Q:=by
 rintro σ H Q ⟨ρ,m,G,μ,S,h⟩
 refine qa4 S h fun xs m1 us H1 G1 μ1 S1 R1 g1 h1=>?_
 cases e:g (xs.map (view m1)) with
 | none=>rw [e] at h1; exact h1.elim
 | some ys=>
  rw [e] at h1
  exact hs G1 μ1 ρ m1 σ H1 xs us ys Q S1 R1 e fun p ws hp rw'=>S1.newL (d:=.non) (m':=m1) hp rw' h1
theorem qcn {id:String} {x:Str} {r:List V→Hp→VK→Prop} {g:List D→Option D} {e:Expr} {es:List Expr} {l:EL} {p pos:Pos} (hc:CallR X (.builtin id) r) (hs:FunSim c g r) (hg:Gl X x) (hm:X.mg x=none) (hv:bootBuiltins x=some (.builtin id)) (ha:PA X (e::es) (rL c l))
  (hn:x ≠ "__name__":=by decide) (hdb:(x == ("__debug__" : Str))=false:=by decide) (hst:starEach (e::es) X.env=(false,eval e X.env)::starEach es X.env:=by rfl) (hpl:(backTo pos (starEach es X.env)).any (·.1)=false:=by rfl) :
  PE X (.Call (.Name x p) (e::es) [] pos) (rE c (eFun g l)):=(pe_callB hc hg hm hv ha hn hdb hst hpl).imp (qji hs)
theorem qgD {T:String} {x:Str} {r:List V→Hp→VK→Prop} {g:List D→Option D} {e:Expr} {es:List Expr} {l:EL} {p pos:Pos} (hc:CallR X (.type T) r) (hs:FunSim c g r) (hg:Gl X x) (hm:X.mg x=none) (hv:bootBuiltins x=some (.type T)) (ha:PA X (e::es) (rL c l))
  (hn:x ≠ "__name__":=by decide) (hdb:(x == ("__debug__" : Str))=false:=by decide) (hst:starEach (e::es) X.env=(false,eval e X.env)::starEach es X.env:=by rfl) (hpl:(backTo pos (starEach es X.env)).any (·.1)=false:=by rfl) :
  PE X (.Call (.Name x p) (e::es) [] pos) (rE c (eFun g l)):=(pe_callTy hc hg hm hv ha hn hdb hst hpl).imp (qji hs)
theorem qib {M:Bool} {T:String} {x:Str} {r:List V→Hp→VK→Prop} {g:List D→Option (List D)} {e:Expr} {es:List Expr} {l:EL} {p pos:Pos} (hc:CallR X (.type T) r) (hs:FunLSim c g r) (hg:Gl X x) (hm:X.mg x=none) (hv:bootBuiltins x=some (.type T)) (ha:PA X (e::es) (rL c l))
  (hn:x ≠ "__name__":=by decide) (hdb:(x == ("__debug__" : Str))=false:=by decide) (hst:starEach (e::es) X.env=(false,eval e X.env)::starEach es X.env:=by rfl) (hpl:(backTo pos (starEach es X.env)).any (·.1)=false:=by rfl) :
  PE X (.Call (.Name x p) (e::es) [] pos) (rE c (eFunL M g l)):=(pe_callTy hc hg hm hv ha hn hdb hst hpl).imp (qj6 hs)

theorem map1 {α β:Type} {f:α→β} {xs:List α} {y:β} (h:xs.map f=[y]):∃ x,xs=[x]∧f x=y:=by
 cases xs with
 | nil=>cases h
 | cons x r=>
  cases r with
  | nil=>exact ⟨x,rfl,by simpa using h⟩
  | cons _ _=>simp at h
theorem map2 {α β:Type} {f:α→β} {xs:List α} {y z:β} (h:xs.map f=[y,z]):∃ x x',xs=[x,x']∧f x=y∧f x' = z:=by
 cases xs with
 | nil=>cases h
 | cons x r=>
  cases r with
  | nil=>simp at h
  | cons x' r=>
   cases r with
   | nil=>exact ⟨x,x',rfl,by simpa using h⟩
   | cons _ _=>simp at h
theorem rep1 {x:D} {us:List V} (h:RepL c.K c.mg c.xo G μ [x] us):∃ u,us=[u]∧Rep c.K c.mg c.xo G μ x u:=by
 cases h with
 | cons r t=>cases t; exact ⟨_,rfl,r⟩
theorem rep2 {x y:D} {us:List V} (h:RepL c.K c.mg c.xo G μ [x,y] us):∃ u v,us=[u,v]∧Rep c.K c.mg c.xo G μ x u∧Rep c.K c.mg c.xo G μ y v:=by
 cases h with
 | cons r t=>
  cases t with
  | cons r' t=>cases t; exact ⟨_,_,rfl,r,r'⟩
def rLenD (K:PySem.W.Frag):List V→Hp→VK→Prop:=fun xs H Q=>(∃ p ys,xs=[.ref p]∧(SqL K H p ys∨SqT K H p ys)∧Q (.int ys.length) H)∨∃ z,xs=[.str z]∧z.length≤sizeLine∧Q (.int z.length) H
theorem qlC:CallR X (.builtin "len") (rLenD X.K):=call_len_seq.or call_len_str
theorem qj7:FunSim c dLen (rLenD c.K):=by
 intro G μ ρ m σ H xs us d Q S rs e k
 unfold dLen at e
 split at e
 ·rename_i s he
  obtain ⟨x,rfl,hx⟩:=map1 he
  obtain ⟨u,rfl,r⟩:=rep1 rs
  split at e
  ·rename_i hl
   cases e
   exact .inr ⟨s,by rw [(qbE r hx).1],by rw [sizeLine_eq]; exact hl,k _ _ _ _ S (.int _) Gr.refl⟩
  ·cases e
 ·rename_i s he
  obtain ⟨x,rfl,hx⟩:=map1 he
  obtain ⟨u,rfl,r⟩:=rep1 rs
  cases e
  obtain ⟨a,vs,ea,ha,ra⟩:=qbm S.mem r hx
  exact .inl ⟨a,vs,by rw [ea],.inl ha,by rw [← ra.length]; exact k _ _ _ _ S (.int _) Gr.refl⟩
 ·rename_i s he
  obtain ⟨x,rfl,hx⟩:=map1 he
  obtain ⟨u,rfl,r⟩:=rep1 rs
  cases e
  obtain ⟨a,vs,ea,ha,ra⟩:=qbT S.mem r hx
  exact .inl ⟨a,vs,by rw [ea],.inr ha,by rw [← ra.length]; exact k _ _ _ _ S (.int _) Gr.refl⟩
 ·cases e
theorem qj8:FunSim c dInt (fun xs H Q=>(∃ i,xs=[.int i]∧Q (.int i) H)∨∃ k,xs=[.bl k]∧Q (.int (if k then 1 else 0)) H):=by
 intro G μ ρ m σ H xs us d Q S rs e k
 unfold dInt at e
 split at e
 ·rename_i s he
  obtain ⟨x,rfl,hx⟩:=map1 he
  obtain ⟨u,rfl,r⟩:=rep1 rs
  cases e
  exact .inl ⟨s,by rw [qaA r hx],k _ _ _ _ S (.int _) Gr.refl⟩
 ·rename_i s he
  obtain ⟨x,rfl,hx⟩:=map1 he
  obtain ⟨u,rfl,r⟩:=rep1 rs
  cases e
  exact .inr ⟨s,by rw [v_bl r hx],k _ _ _ _ S (.int _) Gr.refl⟩
 ·cases e
def rListS:List V→Hp→VK→Prop:=fun xs H Q=>∃ s:Str,xs=[.str s]∧s.length≤sizeLine∧∀ p,H p=none→Q (.ref p) (upd H p (.lst (s.cps.toList.map fun z=>.str ⟨#[z]⟩)))
theorem qic (hc:X.calm=true):CallR X (.type "list") rListS:=by
 intro pins st σ H xs us Q I r ⟨s,ex,hl,q⟩
 subst ex
 obtain ⟨u,rfl,t,rfl⟩:=Vals.one r
 refine call_list_str (I.ok.hd hc) s t (fun h' tk acc cc hk hS ha=>?_) (by exact hl)
 have hv:Vals (s.cps.toList.map fun z=>V.str ⟨#[z]⟩) acc.toList:=by
  refine vals_of_at (by simp [ha.1]) fun j x u e1 e2=>?_
  obtain ⟨z,w,hz,rfl⟩:=ha.2 j u (by simpa using e2)
  rw [wal] at e1
  have hz' : s.cps.toList[j]? = some z:=by simpa using hz
  rw [hz'] at e1
  obtain rfl:V.str ⟨#[z]⟩=x:=by simpa using e1
  exact ⟨w,rfl⟩
 refine ⟨.ref _,_,I.laid (t':=tk) (o:=.lst (s.cps.toList.map fun z=>.str ⟨#[z]⟩)) hk (waL _) ⟨?_,acc.toList,cc,hv,by simpa using hS⟩,rfl,q _ I.fresh⟩
 rw [waa,wap]
 exact hl
abbrev rrList (K:PySem.W.Frag):List V→Hp→VK→Prop:=fun xs H Q=>(∃ p ys,xs=[.ref p]∧(SqL K H p ys∨SqT K H p ys)∧∀ l,H l=none→Q (.ref l) (upd H l (.lst ys)))∨rListS xs H Q
theorem qj9 {k:Nat} (F:Fit X c k):CallR X (.type "list") (rrList X.K):=call_list_of.or (qic F.calm)
theorem qee {s:Str} (h:okS s=true):∀ z∈s.cps.toList,okS ⟨#[z]⟩=true:=by
 intro z hz
 obtain ⟨j,hj⟩:=List.mem_iff_getElem?.mp hz
 exact qdH h hj
theorem RepL.signs {l:List Nat} (h:∀ z∈l,okS ⟨#[z]⟩=true):RepL c.K c.mg c.xo G μ (l.map fun z=>D.str ⟨#[z]⟩) (l.map fun z=>V.str ⟨#[z]⟩):=by
 induction l with
 | nil=>exact .nil
 | cons a l ih=>exact .cons (.str _ (h a (by simp))) (ih fun z hz=>h z (by simp [hz]))
theorem qid:FunLSim c dList (rrList c.K):=by
 intro G μ ρ m σ H xs us ys Q S rs e k
 unfold dList at e
 split at e
 ·rename_i s he
  obtain ⟨x,rfl,hx⟩:=map1 he
  obtain ⟨u,rfl,r⟩:=rep1 rs
  cases e
  obtain ⟨a,vs,ea,ha,ra⟩:=qbm S.mem r hx
  exact .inl ⟨a,vs,by rw [ea],.inl ha,fun l hl=>k l vs hl ra⟩
 ·rename_i s he
  obtain ⟨x,rfl,hx⟩:=map1 he
  obtain ⟨u,rfl,r⟩:=rep1 rs
  cases e
  obtain ⟨a,vs,ea,ha,ra⟩:=qbT S.mem r hx
  exact .inl ⟨a,vs,by rw [ea],.inr ha,fun l hl=>k l vs hl ra⟩
 ·rename_i s he
  obtain ⟨x,rfl,hx⟩:=map1 he
  obtain ⟨u,rfl,r⟩:=rep1 rs
  split at e
  ·rename_i hl
   cases e
   obtain ⟨q1,o1⟩:=qbE r hx
   exact .inr ⟨s,by rw [q1],by rw [sizeLine_eq]; exact hl,fun p hp=>k p _ hp (RepL.signs (qee o1))⟩
  ·cases e
 ·cases e
theorem qgE:FunSim c dTuple (fun xs H Q=>∃ p ys,xs=[.ref p]∧((SqL c.K H p ys∧∀ l,H l=none→Q (.ref l) (upd H l (.tup ys)))∨(SqT c.K H p ys∧Q (.ref p) H))):=by
 intro G μ ρ m σ H xs us d Q S rs e k
 unfold dTuple at e
 split at e
 ·rename_i s he
  obtain ⟨x,rfl,hx⟩:=map1 he
  obtain ⟨u,rfl,r⟩:=rep1 rs
  cases e
  obtain ⟨a,vs,ea,ha,ra⟩:=qbm S.mem r hx
  refine ⟨a,vs,by rw [ea],.inl ⟨ha,fun l hl=>?_⟩⟩
  obtain ⟨S2,g2⟩:=S.alloc hl (.tup vs)
  exact k _ _ _ _ S2 (.tup upd_same (ra.gr g2)) g2
 ·rename_i s he
  obtain ⟨x,rfl,hx⟩:=map1 he
  obtain ⟨u,rfl,r⟩:=rep1 rs
  cases e
  obtain ⟨a,vs,ea,ha,ra⟩:=qbT S.mem r hx
  obtain rfl:=qam hx (by intro _ q; cases q) (by intro _ q; cases q) (by intro _ q; cases q)
  exact ⟨a,vs,by rw [ea],.inr ⟨ha,k _ _ _ _ S (ea ▸ r) Gr.refl⟩⟩
 ·cases e
theorem qka:FunSim c dMax (fun xs H Q=>∃ i j,xs=[.int i,.int j]∧Q (.int (if j > i then j else i)) H):=by
 intro G μ ρ m σ H xs us d Q S rs e k
 unfold dMax at e
 split at e
 ·rename_i i j he
  obtain ⟨x,y,rfl,hx,hy⟩:=map2 he
  obtain ⟨u,v,rfl,r,r'⟩:=rep2 rs
  cases e
  exact ⟨i,j,by rw [qaA r hx,qaA r' hy],k _ _ _ _ S (.int _) Gr.refl⟩
 ·cases e
theorem qkb:FunSim c dMin (fun xs H Q=>∃ i j,xs=[.int i,.int j]∧Q (.int (if j < i then j else i)) H):=by
 intro G μ ρ m σ H xs us d Q S rs e k
 unfold dMin at e
 split at e
 ·rename_i i j he
  obtain ⟨x,y,rfl,hx,hy⟩:=map2 he
  obtain ⟨u,v,rfl,r,r'⟩:=rep2 rs
  cases e
  exact ⟨i,j,by rw [qaA r hx,qaA r' hy],k _ _ _ _ S (.int _) Gr.refl⟩
 ·cases e
theorem qf7:∀ {xs:List D} {vs:List V} {bs:List Bool},dBools xs=some bs→RepL c.K c.mg c.xo G μ xs vs→vs=bs.map V.bl:=by
 intro xs
 induction xs with
 | nil=>intro vs bs e r; cases r; cases e; rfl
 | cons x xs ih=>
  intro vs bs e r
  cases r with
  | cons r1 r2=>
   cases x <;> simp [dBools] at e
   obtain ⟨bs',e1,rfl⟩:=e
   cases r1
   rw [ih e1 r2]
   rfl
theorem qcZ:∀ {xs:List D} {vs:List V} {bs:List Int},dInts xs=some bs→RepL c.K c.mg c.xo G μ xs vs→vs=bs.map V.int:=by
 intro xs
 induction xs with
 | nil=>intro vs bs e r; cases r; cases e; rfl
 | cons x xs ih=>
  intro vs bs e r
  cases r with
  | cons r1 r2=>
   cases x <;> simp [dInts] at e
   obtain ⟨bs',e1,rfl⟩:=e
   cases r1
   rw [ih e1 r2]
   rfl
theorem qbU:∀ {xs:List D} {vs:List V} {bs:List Str},dStrs xs=some bs→RepL c.K c.mg c.xo G μ xs vs→vs=bs.map V.str∧∀ s∈bs,okS s=true:=by
 intro xs
 induction xs with
 | nil=>intro vs bs e r; cases r; cases e; exact ⟨rfl,fun s h=>by cases h⟩
 | cons x xs ih=>
  intro vs bs e r
  cases r with
  | cons r1 r2=>
   cases x <;> simp [dStrs] at e
   obtain ⟨bs',e1,rfl⟩:=e
   cases r1 with
   | str _ ho=>
    obtain ⟨h1,h2⟩:=ih e1 r2
    refine ⟨by rw [h1]; rfl,fun s hs=>?_⟩
    rcases wat.mp hs with rfl | hs
    ·exact ho
    ·exact h2 s hs
theorem qkc:FunSim c dAll (rAll c.K):=by
 intro G μ ρ m σ H xs us d Q S rs e k
 unfold dAll at e
 split at e
 ·rename_i s he
  obtain ⟨x,rfl,hx⟩:=map1 he
  obtain ⟨u,rfl,r⟩:=rep1 rs
  obtain ⟨bs,e1,e2⟩:=wad.mp e
  cases e2
  obtain ⟨a,vs,ea,ha,ra⟩:=qbm S.mem r hx
  obtain rfl:=qf7 e1 ra
  exact ⟨a,bs,by rw [ea],ha,k _ _ _ _ S (.bl _) Gr.refl⟩
 ·cases e
theorem qkd:FunSim c dSum (rSum c.K):=by
 intro G μ ρ m σ H xs us d Q S rs e k
 unfold dSum at e
 split at e
 ·rename_i s he
  obtain ⟨x,rfl,hx⟩:=map1 he
  obtain ⟨u,rfl,r⟩:=rep1 rs
  obtain ⟨bs,e1,e2⟩:=wad.mp e
  cases e2
  obtain ⟨a,vs,ea,ha,ra⟩:=qbm S.mem r hx
  obtain rfl:=qcZ e1 ra
  exact ⟨a,bs,by rw [ea],ha,k _ _ _ _ S (.int _) Gr.refl⟩
 ·cases e

theorem qlD {x y:Str} (h:x.cps.toList=y.cps.toList):x=y:=by
 obtain ⟨a⟩:=x
 obtain ⟨b⟩:=y
 have:a=b:=wbn.mp h
 rw [this]
theorem qc0 {x:Str}:∀ {l:List Str} {p:Str},PyProof.Rows.risingS p l=true→x∈l→leS p x=true
 | [],_,_,h=>by cases h
 | y::l,p,h,hx=>by
  have h' : (!ltCps y.cps.toList p.cps.toList)=true∧PyProof.Rows.risingS y l=true:=by simpa [PyProof.Rows.risingS] using h
  rw [PyProof.Rows.ltCps_eq] at h'
  have hpy:p.cps.toList≤y.cps.toList:=by simpa using h'.1
  rcases wat.mp hx with rfl | hx
  ·simpa [leS] using hpy
  ·have ih:=qc0 (p:=y) h'.2 hx
   have hyx:y.cps.toList≤x.cps.toList:=by simpa [leS] using ih
   simpa [leS] using List.le_trans hpy hyx
theorem qdq:∀ {l:List Str} {p:Str},PyProof.Rows.risingS p l=true→(p::l).Pairwise fun a b=>leS a b=true
 | [],p,_=>by simp
 | y::l,p,h=>by
  have h' : (!ltCps y.cps.toList p.cps.toList)=true∧PyProof.Rows.risingS y l=true:=by simpa [PyProof.Rows.risingS] using h
  rw [List.pairwise_cons]
  exact ⟨fun x hx=>qc0 h hx,qdq h'.2⟩
theorem qf8 {l:List Str} (h:sortedS l=true):l.Pairwise fun a b=>leS a b=true:=by
 cases l with
 | nil=>exact .nil
 | cons x l=>exact qdq h
theorem qgF (a b c:Str) (h:leS a b=true) (h' : leS b c=true):leS a c=true:=by
 simp only [leS,decide_eq_true_eq] at h h' ⊢
 exact List.le_trans h h'
theorem qgG (a b:Str):(leS a b || leS b a)=true:=by
 simp only [leS,wa5,decide_eq_true_eq]
 exact List.le_total _ _
theorem qie {a b:Str} (h:leS a b=true) (h' : leS b a=true):a=b:=by
 simp only [leS,decide_eq_true_eq] at h h'
 exact qlD (List.le_antisymm h h')
theorem qgH {ys ss:List Str} (hp:ys.Perm ss) (h:ys.Pairwise fun a b=>leS a b=true):ys=ss.mergeSort leS:=by
 refine List.Perm.eq_of_pairwise (le:=fun a b=>leS a b=true) (fun a b _ _ h1 h2=>qie h1 h2) h (wbj qgF qgG ss) (hp.trans (wbi ss leS).symm)
theorem RepL.strs {l:List Str} (h:∀ s∈l,okS s=true):RepL c.K c.mg c.xo G μ (l.map D.str) (l.map V.str):=by
 induction l with
 | nil=>exact .nil
 | cons a l ih=>exact .cons (.str _ (h a (by simp))) (ih fun z hz=>h z (by simp [hz]))
def tyNm:D→String
 | .non=>"NoneType"
 | .bl _=>"bool"
 | .int _=>"int"
 | .str _=>"str"
 | .lst _=>"list"
 | .tup _=>"tuple"
 | .dct _=>"dict"
 | _=>""
theorem qke:∀ T∈["bool","int","str","list","tuple","dict"],kitB "NoneType" T=some false∧kitB "bool" T=some (T == "bool" || T == "int")∧kitB "int" T=some (T == "int")∧kitB "str" T=some (T == "str") ∧
  kitB "list" T=some (T == "list")∧kitB "tuple" T=some (T == "tuple")∧kitB "dict" T=some (T == "dict"):=by
 intro T hT
 simp only [wat,List.not_mem_nil,or_false] at hT
 rcases hT with rfl | rfl | rfl | rfl | rfl | rfl <;> decide +kernel
theorem qlE {T:String} (hT:T∈["bool","int","str","list","tuple","dict"]) {d:D} {b:Bool} (h:tyIs T d=some b):kitB (tyNm d) T=some b:=by
 obtain ⟨h1,h2,h3,h4,h5,h6,h7⟩:=qke T hT
 cases d <;> simp only [tyIs,Option.some.injEq,reduceCtorEq] at h <;> (subst h; first | exact h1 | exact h2 | exact h3 | exact h4 | exact h5 | exact h6 | exact h7)
theorem qlF {K:PySem.W.Frag} {a:Addr} {vs:List V} (h:SqL K H a vs):TyX K H (.ref a) (.type "list"):=by
 rcases h with (h | ⟨o,h⟩) | ⟨o,its,n,h,h2,_⟩
 ·exact .base (.lst h)
 ·exact .base (.frz h)
 ·exact .kList h h2
theorem qlG {K:PySem.W.Frag} {a:Addr} {vs:List V} (h:SqT K H a vs):TyX K H (.ref a) (.type "tuple"):=by
 rcases h with (h | ⟨o,h⟩) | ⟨o,its,n,h,h2,_⟩
 ·exact .base (.tup h)
 ·exact .fTuple h
 ·exact .kTuple h h2
theorem qnA {x:D} {u:V} {ps:List (D × D)} (M:MemOk c G μ m H) (r:Rep c.K c.mg c.xo G μ x u) (h:view m x = .dct ps):∃ a kvs,u = .ref a∧H a=some (.dK kvs)∧RepP c.K c.mg c.xo G μ ps kvs:=by
 cases x with
 | loc n=>
  rcases qbS (m:=m) n with ⟨ys,_,e⟩ | ⟨qs,e1,e⟩ | e
  ·cases e.symm.trans h
  ·obtain rfl:qs=ps:=by simpa using e.symm.trans h
   cases r with
   | loc hμ=>
    obtain ⟨_,_,kvs,h1,h2⟩:=M.cell _ _ _ hμ e1
    exact ⟨_,kvs,rfl,h1,h2⟩
  ·cases e.symm.trans h
 | dct ys=>
  obtain rfl:ys=ps:=by simpa [view] using h
  cases r with
  | dct hs ha=>exact ⟨_,_,rfl,M.gh _ _ hs,ha⟩
 | _=>cases h
theorem qnB {x y:D} {u:V} {T:String} {b:Bool} (M:MemOk c G μ m H) (r:Rep c.K c.mg c.xo G μ x u) (h:view m x=y) (ht:tyIs T y=some b):TyX c.K H u (.type (tyNm y)):=by
 cases y with
 | non=>rw [qf6 r h]; exact .base .non
 | bl i=>rw [v_bl r h]; exact .base (.bl i)
 | int i=>rw [qaA r h]; exact .base (.int i)
 | str i=>rw [(qbE r h).1]; exact .base (.str i)
 | lst xs=>
  obtain ⟨a,vs,rfl,ha,_⟩:=qbm M r h
  exact qlF ha
 | tup xs=>
  obtain ⟨a,vs,rfl,ha,_⟩:=qbT M r h
  exact qlG ha
 | dct ps=>
  obtain ⟨a,kvs,rfl,ha,_⟩:=qnA M r h
  exact .base (.dK ha)
 | _=>cases ht
theorem qf9:FunSim c dIsInst (rIsi c.K):=by
 intro G μ ρ m σ H xs us d Q S rs e k
 unfold dIsInst at e
 split at e
 ·rename_i z T he
  obtain ⟨x,y,rfl,hx,hy⟩:=map2 he
  obtain ⟨u,v,rfl,r,r'⟩:=rep2 rs
  split at e
  ·rename_i hT
   obtain ⟨b,e1,e2⟩:=wad.mp e
   cases e2
   have ev:=v_ty r' hy
   subst ev
   exact ⟨u,.ty T,.type (tyNm z),.type T,b,rfl,.ty T,qnB S.mem r hx e1,kit_ty (qlE hT e1),k _ _ _ _ S (.bl b) Gr.refl⟩
  ·cases e
 ·cases e
theorem qaJ {x:Str} {T:String} {pos:Pos} (hg:Gl X x) (hm:X.mg x=none) (hv:bootBuiltins x=some (.type T)) (hn:x ≠ "__name__":=by decide) (hd:(x == ("__debug__" : Str))=false:=by decide):PE X (.Name x pos) (rE c (eC (.ty T))):=
 (pe_bltn (v:=.ty T) hg hm hv rfl hn hd).imp fun _ _ _ h=>qbf (fun _ _=>.ty T) h

theorem natz (n:Nat):(n != 0)=((n:Int) != 0):=by
 rw [wa1,bne_iff_ne,bne_iff_ne]
 omega
theorem qgI:∀ (σ:L2.St) (H:Hp) (Q:Bool→Hp→Prop) (f:E),rT c (tVal f) σ H Q→rE c f σ H fun x H'=>∃ k,TruV c.K x H' k∧Q k H':=by
 rintro σ H Q f ⟨ρ,m,G,μ,S,h⟩
 refine qby S h fun x m1 u H1 G1 μ1 S1 R1 g1 h1=>?_
 obtain ⟨k,e,h1⟩:=PostT.of h1
 refine ⟨k,?_,h1 _ _ _ S1 Gr.refl⟩
 generalize e1:view m1 x=y at e
 cases y with
 | non=>rw [qf6 R1 e1]; cases e; exact rfl
 | bl b=>rw [v_bl R1 e1]; cases e; exact rfl
 | int i=>rw [qaA R1 e1]; cases e; exact rfl
 | str s=>
  have e:(if s.length≤LN then some (s.length != 0) else none)=some k:=e
  split at e
  ·rename_i hl
   cases e
   rw [(qbE R1 e1).1]
   exact ⟨by rw [sizeLine_eq]; exact hl,natz _⟩
  ·cases e
 | lst xs=>
  cases e
  obtain ⟨a,vs,rfl,ha,ra⟩:=qbm S1.mem R1 e1
  refine .inl ⟨vs,ha,?_⟩
  cases ra <;> rfl
 | tup xs=>
  cases e
  obtain ⟨a,vs,rfl,ha,ra⟩:=qbT S1.mem R1 e1
  refine .inr (.inl ⟨vs,ha,?_⟩)
  cases ra <;> rfl
 | _=>cases e
theorem qaD {a:Expr} {f:E} {k:Nat} (F:Fit0 X c k) (h:PE X a (rE c f)) (he:∀ whole,isTrue a X.env whole=(do let v ← whole; standAt a.pos; holding [v] (truthy v)):=by intro _; rfl):PT X a (rT c (tVal f)):=
 (pt_truth h he).imp fun σ H Q q=>by
  have z:=qgI σ H Q f q
  rw [F.K] at z
  exact z
end
end TT

set_option maxHeartbeats 2000000
namespace TT
open PySem PySem.Spec PyProof.Rows L2
variable [TabI]
section
variable {X:Cx} {c:Ct} {G:Hp} {μ:List Addr} {ρ:Ev} {m:Mem} {σ:L2.St} {H:Hp}
theorem qif {g g' : D→D→Option Bool} {r r' : R2} {fa fb fc:E} {Q:VK} (hs:CmpSim c g r) (hs' : CmpSim c g' r') (h:rE c (eChain g g' fa fb fc) σ H Q):L2.tChain r r' (rE c fa) (rE c fb) (rE c fc) σ H Q:=by
 obtain ⟨ρ,m,G,μ,S,h⟩:=h
 refine qaq S h fun x m1 u H1 G1 μ1 S1 R1 g1 h1=>?_
 refine qaq S1 h1 fun y m2 v H2 G2 μ2 S2 R2 g2 h2=>?_
 cases e:g (view m2 x) (view m2 y) with
 | none=>rw [e] at h2; exact h2.elim
 | some k=>
  rw [e] at h2
  simp only [R.of_some,R.bind_ok] at h2
  refine hs G2 μ2 ρ m2 σ H2 x y k u v _ S2 (R1.gr g2) R2 e ⟨k,rfl,?_⟩
  cases k with
  | false=>exact h2 _ _ _ _ S2 (.bl false) Gr.refl
  | true=>
   rw [if_pos rfl] at h2 ⊢
   refine qaq S2 h2 fun z m3 w H3 G3 μ3 S3 R3 g3 h3=>?_
   obtain ⟨d,e2,h4⟩:=PostE.of h3
   obtain ⟨k2,e3,rfl⟩:=wad.mp e2
   exact hs' G3 μ3 ρ m3 σ H3 y z k2 v w _ S3 (R2.gr g3) R3 e3 (h4 _ _ _ _ S3 (.bl k2) Gr.refl)
theorem qig {op op' : CmpOp} {r r' : R2} {g g' : D→D→Option Bool} {a b d:Expr} {fa fb fc:E} {pos:Pos} (ho:OpR X (compareOp op) r) (ho' : OpR X (compareOp op') r') (hs:CmpSim c g r) (hs' : CmpSim c g' r') (ha:PE X a (rE c fa)) (hb:PE X b (rE c fb)) (hd:PE X d (rE c fc))
  (hm:lastMarks [op,op'] [b,d]=false:=by with_unfolding_all rfl):PE X (.Compare a [op,op'] [b,d] pos) (rE c (eChain g g' fa fb fc)):=(pe_chain ho ho' ha hb hd hm).imp fun _ _ _ h=>qif hs hs' h
theorem qih {g g' : D→D→Option Bool} {r r' : R2} {fa fb fc:E} {Q:Bool→Hp→Prop} (hs:CmpSim c g r) (hs' : CmpSim c g' r') (h:rT c (tChain g g' fa fb fc) σ H Q):tTest (L2.tChain r r' (rE c fa) (rE c fb) (rE c fc)) σ H Q:=by
 obtain ⟨ρ,m,G,μ,S,h⟩:=h
 refine qby S h fun x m1 u H1 G1 μ1 S1 R1 g1 h1=>?_
 refine qby S1 h1 fun y m2 v H2 G2 μ2 S2 R2 g2 h2=>?_
 cases e:g (view m2 x) (view m2 y) with
 | none=>rw [e] at h2; exact h2.elim
 | some k=>
  rw [e] at h2
  simp only [R.of_some,R.bind_ok] at h2
  refine hs G2 μ2 ρ m2 σ H2 x y k u v _ S2 (R1.gr g2) R2 e ⟨k,rfl,?_⟩
  cases k with
  | false=>exact ⟨false,rfl,h2 _ _ _ S2 Gr.refl⟩
  | true=>
   rw [if_pos rfl] at h2 ⊢
   refine qby S2 h2 fun z m3 w H3 G3 μ3 S3 R3 g3 h3=>?_
   obtain ⟨k2,e3,h4⟩:=PostT.of h3
   exact hs' G3 μ3 ρ m3 σ H3 y z k2 v w _ S3 (R2.gr g3) R3 e3 ⟨k2,rfl,h4 _ _ _ S3 Gr.refl⟩
theorem qdI {op op' : CmpOp} {r r' : R2} {g g' : D→D→Option Bool} {a b d:Expr} {fa fb fc:E} {pos:Pos} (ho:OpR X (compareOp op) r) (ho' : OpR X (compareOp op') r') (hs:CmpSim c g r) (hs' : CmpSim c g' r') (ha:PE X a (rE c fa)) (hb:PE X b (rE c fb)) (hd:PE X d (rE c fc))
  (hm:lastMarks [op,op'] [b,d]=false:=by with_unfolding_all rfl):PT X (.Compare a [op,op'] [b,d] pos) (rT c (tChain g g' fa fb fc)):=(pt_chain ho ho' ha hb hd hm).imp fun _ _ _ h=>qih hs hs' h

def MethSim (c:Ct) (T:String) (g:D→List D→Option D) (r:V→List V→Hp→VK→Prop):Prop:=∀ G μ ρ m σ H x u xs us d Q,Sim c G μ ρ m σ H→Rep c.K c.mg c.xo G μ x u→RepL c.K c.mg c.xo G μ xs us→g (view m x) (xs.map (view m))=some d →
 (∀ w H' G' μ',Sim c G' μ' ρ m σ H'→Rep c.K c.mg c.xo G' μ' d w→Gr G μ G' μ'→Q w H')→r u us H Q
theorem qjj {x:D} {u:V} {T:String} (M:MemOk c G μ m H) (r:Rep c.K c.mg c.xo G μ x u) (h:tyIs T (view m x)=some true) (hT:T = "str" ∨ T = "list"):tyV c.K T u H:=by
 generalize e1:view m x=y at h
 cases y with
 | str s=>
  rw [(qbE r e1).1]
  show T = "str"
  simpa [tyIs] using h
 | lst xs=>
  obtain ⟨a,vs,rfl,ha,_⟩:=qbm M r e1
  exact .inl ⟨by simpa [tyIs] using h,vs,ha⟩
 | non=>cases h
 | bl b=>rcases hT with rfl | rfl <;> simp [tyIs] at h
 | int b=>rcases hT with rfl | rfl <;> simp [tyIs] at h
 | tup b=>rcases hT with rfl | rfl <;> simp [tyIs] at h
 | dct b=>rcases hT with rfl | rfl <;> simp [tyIs] at h
 | _=>cases h
theorem qkf {T:String} {g:D→List D→Option D} {r:V→List V→Hp→VK→Prop} {fo:E} {l:EL} (hT:T = "str" ∨ T = "list") (hs:MethSim c T g r):∀ (σ:L2.St) (H:Hp) (Q:VK),rE c (eMeth T g fo l) σ H Q→tBM c.K T r (rE c fo) (rL c l) σ H Q:=by
 rintro σ H Q ⟨ρ,m,G,μ,S,h⟩
 refine qaq S h fun x m1 u H1 G1 μ1 S1 R1 g1 h1=>?_
 split at h1
 ·rename_i ht
  refine ⟨qjj S1.mem R1 ht hT,qa4 S1 h1 fun xs m2 us H2 G2 μ2 S2 R2 g2 h2=>?_⟩
  obtain ⟨d,e,h2⟩:=PostE.of h2
  exact hs G2 μ2 ρ m2 σ H2 x u xs us d Q S2 (R1.gr g2) R2 e h2
 ·exact h1.elim
theorem qeK {T id:String} {name:Str} {r:V→List V→Hp→VK→Prop} {g:D→List D→Option D} {o e:Expr} {es:List Expr} {fo:E} {l:EL} {apos cpos:Pos} {k:Nat} (F:Fit X c k) (pa:PlainAttrs T) (slot:Slot T name id) (hty:typeOf (.builtin id)=pure (.type "method_descriptor"))
  (hT:T = "str" ∨ T = "list") (hm:MtR X id r) (hs:MethSim c T g r) (ho:PE X o (rE c fo)) (ha:PA X (e::es) (rL c l))
  (hbase:attributeBase o name X.env (eval o X.env)=eval o X.env:=by rfl)
  (hfew:((backTo cpos (starEach (e::es) X.env)).all (fun x=>!x.1) && (backToKw cpos (keywordEach [] X.env)).all (fun x=>x.1.isSome)
   && decide ((e::es).length+([]:List Keyword).length+(if ([]:List Keyword).isEmpty then 0 else 1) < 30))=true:=by rfl)
  (hline:(apos.endLine == cpos.line)=true:=by rfl) (hst:starEach (e::es) X.env=(false,eval e X.env)::starEach es X.env:=by rfl) (hpl:(backTo cpos (starEach es X.env)).any (·.1)=false:=by rfl) :
  PE X (.Call (.Attribute o name apos) (e::es) [] cpos) (rE c (eMeth T g fo l)):=
 (pe_bm pa slot hty hm ho ha hbase hfew hline hst hpl).imp fun σ H Q h=>by
  have z:=qkf hT hs σ H Q h
  rw [F.K] at z
  exact z
theorem qii {s:Str}:okS s=s.cps.toList.all (· < 0x110000):=by
 unfold okS
 rw [wbC]
theorem qdJ {a:Str} (ha:okS a=true):∀ {ys:List Str},(∀ s∈ys,okS s=true)→okS (Str.join a ys)=true
 | [],_=>by
  show okS Str.empty=true
  simp [okS,Str.empty]
 | [x],h=>h x (by simp)
 | x::y::r,h=>by
  show okS (x++a++Str.join a (y::r))=true
  exact qb6 (qb6 (h x (by simp)) ha) (qdJ ha fun s hs=>h s (by simp [hs]))
abbrev rJoin (K:PySem.W.Frag):V→List V→Hp→VK→Prop:=fun x xs H Q=>∃ a p,∃ ys:List Str,x = .str a∧xs=[.ref p]∧(SqL K H p (ys.map V.str)∨SqT K H p (ys.map V.str))∧(ys.map (·.length)).sum+ys.length * a.length≤16777216∧Q (.str (Txt.join a ys)) H
theorem qij:MethSim c "str" mJoin (rJoin c.K):=by
 intro G μ ρ m σ H x u xs us d Q S r rs e k
 generalize e1:view m x=x' at e
 unfold mJoin at e
 split at e
 ·rename_i a ys he
  obtain ⟨z,rfl,hz⟩:=map1 he
  obtain ⟨w,rfl,rz⟩:=rep1 rs
  obtain ⟨ss,e2,e3⟩:=waB.mp e
  split at e3
  ·rename_i hl
   cases e3
   obtain ⟨p,vs,ew,hp,rp⟩:=qbm S.mem rz hz
   obtain ⟨rfl,ho⟩:=qbU e2 rp
   obtain ⟨q1,o1⟩:=qbE r e1
   exact ⟨a,p,ss,q1,by rw [ew],.inl hp,hl,by rw [TL.join_eq]; exact k _ _ _ _ S (.str _ (qdJ o1 ho)) Gr.refl⟩
  ·cases e3
 ·rename_i a ys he
  obtain ⟨z,rfl,hz⟩:=map1 he
  obtain ⟨w,rfl,rz⟩:=rep1 rs
  obtain ⟨ss,e2,e3⟩:=waB.mp e
  split at e3
  ·rename_i hl
   cases e3
   obtain ⟨p,vs,ew,hp,rp⟩:=qbT S.mem rz hz
   obtain ⟨rfl,ho⟩:=qbU e2 rp
   obtain ⟨q1,o1⟩:=qbE r e1
   exact ⟨a,p,ss,q1,by rw [ew],.inr hp,hl,by rw [TL.join_eq]; exact k _ _ _ _ S (.str _ (qdJ o1 ho)) Gr.refl⟩
  ·cases e3
 ·cases e
theorem qik {x:D} (h:isData x=true):∀ {ys:List D} {j:Nat},ys.all (dataN 15)=true→findD x ys=some j→∃ z,(toPyL ys)[j]? = some z∧PyData.eqv z (toPy x)=true∧∀ (i:Nat) (z' : PyData),i < j→(toPyL ys)[i]? = some z'→PyData.eqv z' (toPy x)=false:=by
 intro ys
 induction ys with
 | nil=>intro j _ e; cases e
 | cons y ys ih=>
  intro j hy e
  have hy' : dataN 15 y=true∧ys.all (dataN 15)=true:=by simpa using hy
  unfold findD at e
  split at e
  ·rename_i hq
   cases e
   exact ⟨toPy y,rfl,by rw [← qdp 15 16 y x hy'.1 h]; exact hq,fun i z' hi=>absurd hi (Nat.not_lt_zero _)⟩
  ·rename_i hq
   obtain ⟨j',e1,rfl⟩:=wad.mp e
   obtain ⟨z,h1,h2,h3⟩:=ih hy'.2 e1
   refine ⟨z,by simpa [toPyL] using h1,h2,fun i z' hi hz=>?_⟩
   cases i with
   | zero=>
    obtain rfl:toPy y=z':=by simpa [toPyL] using hz
    rw [← qdp 15 16 y x hy'.1 h]
    simpa using hq
   | succ i=>exact h3 i z' (Nat.lt_of_succ_lt_succ hi) (by simpa [toPyL] using hz)
theorem qgJ:MethSim c "list" mIndex (rIndexD c.K):=by
 intro G μ ρ m σ H x u xs us d Q S r rs e k
 generalize e1:view m x=x' at e
 unfold mIndex at e
 split at e
 ·rename_i ys y he
  obtain ⟨z,rfl,hz⟩:=map1 he
  obtain ⟨w,rfl,rz⟩:=rep1 rs
  split at e
  ·rename_i hd
   obtain ⟨j,e2,e3⟩:=wad.mp e
   cases e3
   obtain ⟨a1,a2⟩:=qbF S.mem r e1 hd.1
   obtain ⟨b1,b2⟩:=qbF S.mem rz hz hd.2
   obtain ⟨p,vs,eu,hp,rp⟩:=qbm S.mem r e1
   subst eu
   obtain ⟨z',h1,h2,h3⟩:=qik hd.2 (by simpa [isData,dataN] using hd.1) e2
   exact ⟨p,w,toPy y,toPyL ys,j,z',rfl,rfl,a1,b1,a2,b2,h1,h2,h3,k _ _ _ _ S (.int _) Gr.refl⟩
  ·cases e
 ·cases e

theorem qdK {l:List Addr} (h:l.Nodup) {i j:Nat} {x:Addr} (a:l[i]? = some x) (b:l[j]? = some x):i=j:=by
 obtain ⟨h1,e1⟩:=waj.mp a
 obtain ⟨h2,e2⟩:=waj.mp b
 exact (List.getElem_inj h).mp (e1.trans e2.symm)
theorem MemOk.setL (h:MemOk c G μ m H) {n:Nat} {a:Addr} {xs ys:List D} {vs:List V} (hμ:μ[n]? = some a) (hm:m[n]? = some (.lst xs)) (r:RepL c.K c.mg c.xo G μ ys vs):MemOk c G μ (m.set n (.lst ys)) (upd H a (.lst vs)):=by
 obtain ⟨ga,ba,ws,ha,_⟩:=h.cell n a _ hμ hm
 have nG:∀ b o,G b=some o→b≠a:=fun b o e z=>by rw [z,ga] at e; cases e
 have nB:∀ b o,c.B b=some o→b≠a:=fun b o e z=>by rw [z,ba] at e; cases e
 refine ⟨fun b o e=>by rw [upd_ne (nG b o e)]; exact h.gh b o e,fun b o e=>by rw [upd_ne (nB b o e)]; exact h.bh b o e,h.g0,h.gb,by simp [h.ml],h.nd,fun i b k e1 e2=>?_,fun b hb=>?_,h.mb,fun p hp=>have T:=h.tb p hp; T.up (Same.refl _) T.g T.b T.m (T.at_ ha (fun ps z=>by cases z))⟩
 ·by_cases hi:n=i
  ·subst hi
   have hl:n < m.length:=(waj.mp hm).1
   rw [waz hl] at e2
   obtain rfl:Cell.lst ys=k:=by simpa using e2
   rw [hμ] at e1
   obtain rfl:a=b:=by simpa using e1
   exact ⟨ga,ba,vs,upd_same,r⟩
  ·rw [waF hi] at e2
   have nb:b≠a:=fun z=>hi (qdK h.nd hμ (z ▸ e1))
   refine CellOk.mono Gr.refl (fun q=>q) (fun _ _ q=>q) (fun x o hw e=>?_) (h.cell i b k e1 e2)
   have nx:x≠a:=by
    rcases hw with rfl | rfl
    ·exact nb
    ·intro z
     rw [z,ha] at e
     cases e
   rw [upd_ne nx]
   exact e
 ·by_cases hq:b=a
  ·subst hq
   rw [upd_same]
   simp
  ·rw [upd_ne hq]
   exact h.used b hb
theorem qa1 {o e:Expr} {fo fe:E} {apos cpos:Pos} {k:Nat} (F:Fit0 X c k) (ho:PE X o (rE c fo)) (he:PE X e (rE c fe))
  (hbase:attributeBase o "append" X.env (eval o X.env)=eval o X.env:=by rfl)
  (hfew:((backTo cpos (starEach [e] X.env)).all (fun x=>!x.1) && (backToKw cpos (keywordEach [] X.env)).all (fun x=>x.1.isSome)
   && decide ([e].length+([]:List Keyword).length+(if ([]:List Keyword).isEmpty then 0 else 1) < 30))=true:=by rfl)
  (hline:(apos.endLine == cpos.line)=true:=by rfl) (hst:starEach [e] X.env=(false,eval e X.env)::starEach [] X.env:=by rfl) (hpl:(backTo cpos (starEach [] X.env)).any (·.1)=false:=by rfl) :
  PE X (.Call (.Attribute o "append" apos) [e] [] cpos) (rE c (eAppend fo fe)):=by
 refine (pe_bm (r:=rAppend) PySem.F.plainAttrs_list PySem.F.slot_list_append PySem.F.type_list_append mt_append ho (pa_cons he pa_nil hst) hbase hfew hline hst hpl).imp ?_
 rintro σ H Q ⟨ρ,m,G,μ,S,h⟩
 refine qaq S h fun x m1 u H1 G1 μ1 S1 R1 g1 h1=>?_
 split at h1
 ·rename_i ht
  rw [← F.K]
  refine ⟨qjj S1.mem R1 ht (.inr rfl),qaq S1 h1 fun y m2 v H2 G2 μ2 S2 R2 g2 h2=>?_⟩
  cases x with
  | loc n=>
   cases R1 with
   | loc hμ=>
    rename_i a
    have h2:PostE c G2 μ2 ρ σ Q (match m2[n]? with
     | some (.lst xs)=>if xs.length < LN then .ok .non (m2.set n (.lst (xs++[y]))) else .bad
     | _=>.bad):=h2
    split at h2
    ·rename_i xs hm
     split at h2
     ·rename_i hl
      have hμ2:=qdF g2.m hμ
      obtain ⟨_,_,vs,ha,ra⟩:=S2.mem.cell n a _ hμ2 hm
      refine ⟨a,vs,v,rfl,rfl,ha,by rw [← ra.length,sizeLine_eq]; exact hl,?_⟩
      exact h2 _ _ _ _ (S2.gr (S2.mem.setL hμ2 hm (ra.append (.cons R2 .nil))) Gr.refl) .non Gr.refl
     ·exact h2.elim
    ·exact h2.elim
  | _=>exact h2.elim
 ·exact h1.elim
theorem Sim.frz {n:Nat} {a:Addr} {xs:List D} (S:Sim c G μ ρ m σ H) (hμ:μ[n]? = some a) (hm:m[n]? = some (.lst xs)):∃ vs,Sim c (upd G a (.lst vs)) μ ρ (m.set n .dead) σ H∧Gr G μ (upd G a (.lst vs)) μ∧Rep c.K c.mg c.xo (upd G a (.lst vs)) μ (.lst xs) (.ref a):=by
 obtain ⟨ga,ba,vs,ha,ra⟩:=S.mem.cell n a _ hμ hm
 have g:Gr G μ (upd G a (.lst vs)) μ:=⟨fun b o e=>by rw [upd_ne (ne_of_none e ga)]; exact e,wai _⟩
 refine ⟨vs,S.gr ⟨fun b o e=>?_,S.mem.bh,S.mem.g0.trans g.g,fun b o e1 e2=>?_,by simp [S.mem.ml],S.mem.nd,fun i b k e1 e2=>?_,S.mem.used,S.mem.mb,fun p hp=>have T:=S.mem.tb p hp; T.up g.g (by rw [upd_ne (T.ne ha (fun ps z=>by cases z))]; exact T.g) T.b T.m rfl⟩ g,g,.lst (SqL.of upd_same) (ra.gr g)⟩
 ·by_cases hb:b=a
  ·subst hb
   rw [upd_same] at e
   rw [ha]
   exact e
  ·rw [upd_ne hb] at e
   exact S.mem.gh b o e
 ·have nb:b≠a:=fun z=>by rw [z,ba] at e1; cases e1
  rw [upd_ne nb]
  exact S.mem.gb b o e1 e2
 ·by_cases hi:n=i
  ·subst hi
   have hl:n < m.length:=(waj.mp hm).1
   rw [waz hl] at e2
   obtain rfl:Cell.dead=k:=by simpa using e2
   trivial
  ·rw [waF hi] at e2
   have nb:b≠a:=fun z=>hi (qdK S.mem.nd hμ (z ▸ e1))
   refine CellOk.mono g (fun q=>by rw [upd_ne nb]; exact q) (fun x e q=>?_) (fun _ _ _ e=>e) (S.mem.cell i b k e1 e2)
   have nx:x≠a:=fun z=>by rw [z,ha] at e; cases e
   rw [upd_ne nx]
   exact q
theorem qga {a:Addr} {ds:List D} {vs:List V} (h:SqL c.K G a vs) (r:RepL c.K c.mg c.xo G μ ds vs):WalkD c (Itl c.K a) G μ ds:=by
 unfold WalkD
 rw [r.length]
 refine walk_list.mono (fun H s=>Same.seq s h) fun i H x H' _ _ y=>?_
 obtain ⟨d,h1,h2⟩:=r.getV y.2
 exact ⟨d,h1,.inl ⟨y.1,h2⟩⟩
theorem qgK {a:Addr} {ds:List D} {vs:List V} (h:SqT c.K G a vs) (r:RepL c.K c.mg c.xo G μ ds vs):WalkD c (Itt c.K a) G μ ds:=by
 unfold WalkD
 rw [r.length]
 refine walk_tup.mono (fun H s=>Same.tupS s h) fun i H x H' _ _ y=>?_
 obtain ⟨d,h1,h2⟩:=r.getV y.2
 exact ⟨d,h1,.inl ⟨y.1,h2⟩⟩
theorem qgL {s:Str} (h:okS s=true):WalkD c (Its s) G μ (s.cps.toList.map fun z=>.str ⟨#[z]⟩):=by
 unfold WalkD
 rw [waa,wap]
 refine walk_str.mono (fun H _=>trivial) fun i H x H' _ _ y=>?_
 obtain ⟨e,z,hz,rfl⟩:=y
 have hz' : s.cps.toList[i]? = some z:=by simpa using hz
 exact ⟨_,by rw [wal,hz']; rfl,.inl ⟨e,.str _ (qdH h hz')⟩⟩
theorem qkg {f:E} {k:D→Mem→R (List D)} {R' : It→Hp→Prop} {Q' : VK} (S:Sim c G μ ρ m σ H)
  (h:match (f ρ m).bind k with
   | .ok ds m1=>∀ J H1 G1 μ1,Sim c G1 μ1 ρ m1 σ H1→Gr G μ G1 μ1→WalkD c J G1 μ1 ds→R' J H1
   | .exc e m1=>∀ cc dd H1 G1 μ1,Sim c G1 μ1 ρ m1 σ H1→Gr G μ G1 μ1→ExcAt c.mg e cc dd G1→c.W cc dd σ H1
   | .bad=>False)
  (q:∀ d m1 v H1 G1 μ1,Sim c G1 μ1 ρ m1 σ H1→Rep c.K c.mg c.xo G1 μ1 d v→Gr G μ G1 μ1→(match k d m1 with
   | .ok ds m1=>∀ J H2 G2 μ2,Sim c G2 μ2 ρ m1 σ H2→Gr G μ G2 μ2→WalkD c J G2 μ2 ds→R' J H2
   | .exc e m1=>∀ cc dd H1 G1 μ1,Sim c G1 μ1 ρ m1 σ H1→Gr G μ G1 μ1→ExcAt c.mg e cc dd G1→c.W cc dd σ H1
   | .bad=>False)→Q' v H1):rE c f σ H Q':=by
 refine ⟨ρ,m,G,μ,S,?_⟩
 cases e:f ρ m with
 | ok d m1=>
  rw [e] at h
  exact fun v H1 G1 μ1 S1 R1 g1=>q d m1 v H1 G1 μ1 S1 R1 g1 h
 | exc x m1=>
  rw [e] at h
  exact h
 | bad=>
  rw [e] at h
  exact h
theorem qlH {f:E}:∀ (σ:L2.St) (H:Hp) (R' : It→Hp→Prop),rIt c (iSeq f) σ H R'→iList c.K (rE c f) σ H R'∨(iTup c.K (rE c f) σ H R'∨iStr (rE c f) σ H R'):=by
 rintro σ H R' ⟨ρ,m,G,μ,S,h⟩
 have h:match (f ρ m).bind fun x m=>R.of m (dItems x) with
   | .ok ds m1=>∀ J H1 G1 μ1,Sim c G1 μ1 ρ m1 σ H1→Gr G μ G1 μ1→WalkD c J G1 μ1 ds→R' J H1
   | .exc e m1=>∀ cc dd H1 G1 μ1,Sim c G1 μ1 ρ m1 σ H1→Gr G μ G1 μ1→ExcAt c.mg e cc dd G1→c.W cc dd σ H1
   | .bad=>False:=h
 cases e:f ρ m with
 | bad=>rw [e] at h; exact h.elim
 | exc x m1=>
  rw [e] at h
  refine .inl ⟨ρ,m,G,μ,S,?_⟩
  rw [e]
  exact h
 | ok d m1=>
  rw [e] at h
  have key:∀ {Q:VK},(∀ v H1 G1 μ1,Sim c G1 μ1 ρ m1 σ H1→Rep c.K c.mg c.xo G1 μ1 d v→Gr G μ G1 μ1→Q v H1)→rE c f σ H Q:=fun q=>⟨ρ,m,G,μ,S,by rw [e]; exact q⟩
  cases d with
  | lst xs=>
   refine .inl (key fun v H1 G1 μ1 S1 R1 g1=>?_)
   obtain ⟨a,vs,rfl,ha,ra⟩:=qlv R1
   exact ⟨a,rfl,⟨vs,S1.mem.gh.seq ha⟩,h _ _ _ _ S1 g1 (qga ha ra)⟩
  | tup xs=>
   refine .inr (.inl (key fun v H1 G1 μ1 S1 R1 g1=>?_))
   cases R1 with
   | tup ha ra=>exact ⟨_,rfl,⟨_,SqT.of (S1.mem.gh _ _ ha)⟩,h _ _ _ _ S1 g1 (qgK (SqT.of ha) ra)⟩
  | str s=>
   refine .inr (.inr (key fun v H1 G1 μ1 S1 R1 g1=>?_))
   cases R1 with
   | str _ ho=>exact ⟨s,rfl,h _ _ _ _ S1 g1 (qgL ho)⟩
  | _=>exact h.elim
theorem qba {tg l:Expr} {f:E} {k:Nat} (F:Fit X c k) (hl:PE X l (rE c f)):PI X tg l (rIt c (iSeq f)):=
 ((pi_list hl).or ((pi_tup hl).or (pi_str hl))).imp fun σ H R h=>by
  have z:=qlH σ H R h
  rw [F.K] at z
  exact z
theorem qeL {n:Int}:WalkD c (Itr 0 n.toNat) G μ (dRange n):=by
 unfold WalkD dRange
 rw [waa,wbd]
 refine walk_range.mono (fun H _=>trivial) fun i H x H' hi _ y=>?_
 refine ⟨.int (i:Nat),by rw [wal,wbp hi]; rfl,.inl ⟨y.1,?_⟩⟩
 rw [y.2]
 show Rep c.K c.mg c.xo G μ (.int (i:Nat)) (.int (0+(i:Nat)))
 rw [Int.zero_add]
 exact .int _
theorem qbz {tg a:Expr} {f:E} {p pos:Pos} {k:Nat} (F:Fit X c k) (hg:Gl X "range") (hm:X.mg "range" = none) (ha:PE X a (rE c f)) (hs:starEach [a] X.env=[(false,eval a X.env)]:=by rfl) (hs2:starEach [a] X.env=(false,eval a X.env)::starEach [] X.env:=by rfl) :
  PI X tg (.Call (.Name "range" p) [a] [] pos) (rIt c (iRange f)):=by
 refine (pi_range1 hg hm (pa_cons ha pa_nil hs2) hs).imp ?_
 rintro σ H R' ⟨ρ,m,G,μ,S,h⟩
 refine qkg (R':=R') S h fun d m1 v H1 G1 μ1 S1 R1 g1 h1=>?_
 cases d with
 | int n=>
  cases R1
  have h1:match (if -(2 ^ 62)≤n∧n < 2 ^ 62 then R.ok (dRange n) m1 else R.bad) with
   | .ok ds m1=>∀ J H2 G2 μ2,Sim c G2 μ2 ρ m1 σ H2→Gr G μ G2 μ2→WalkD c J G2 μ2 ds→R' J H2
   | .exc e m1=>∀ cc dd H1 G1 μ1,Sim c G1 μ1 ρ m1 σ H1→Gr G μ G1 μ1→ExcAt c.mg e cc dd G1→c.W cc dd σ H1
   | .bad=>False:=h1
  split at h1
  ·rename_i hn
   split at hn
   ·rename_i hb
    cases hn
    exact ⟨n,rfl,hb.1,hb.2,h1 _ _ _ _ S1 g1 qeL⟩
   ·cases hn
  ·rename_i hn
   split at hn <;> cases hn
  ·exact h1.elim
 | _=>exact h1.elim
theorem qil {M:Bool} {k j:Nat} {f:F} {x:Str} {p pos:Pos} (F:Fit X c k) (hxo:c.xo=none) (C:Callee X.prog X.w X.K X.mg X.base j x 0 f) (hj:j≤k) (hg:Gl X x) (hdb:(x == ("__debug__" : Str))=false:=by decide):PE X (.Call (.Name x p) [] [] pos) (rE c (eCall M 0 f lNil)):=by
 obtain ⟨a,fd,ps,h1,h2,h3,h4⟩:=C.ex
 have h1:FnOk X.prog X.w X.K X.mg X.base (L2.CX X.prog X.w) j a fd ps (spD c.K c.mg c.w 0 f):=by
  rw [F.K,F.mg,F.w]
  exact h1
 refine ⟨fun pins s σ H Q I h=>?_⟩
 have z:=qgy hxo σ H Q h
 obtain ⟨ρ,m,G,μ,S,z⟩:=z
 have z:spD c.K c.mg c.w 0 f ([]++[]) H Q (WE c.W σ):=z [] H G μ S .nil Gr.refl
 refine wpAny_Call_Name_kw (ld_glob I hg h2 ?_ hdb)
 exact PySem.W.callWith_K0 I.kIn h3 (run_fnSD (us:=[]) h1 (F.rm.mono hj) h4 .nil (passAt F.tk σ) I .nil z)
end
end TT

set_option maxHeartbeats 2000000
namespace TT
open PySem PySem.Spec PyProof.Rows L2
variable [TabI]
section
variable {X:Cx} {c:Ct} {k:Nat} {a b d:Expr} {fa fb fc:E} {pos:Pos}
theorem qat (F:Fit0 X c k) (ha:PE X a (rE c fa)) (hb:PE X b (rE c fb)):PE X (.BinOp a .Add b pos) (rE c (eOp dAdd fa fb)):=qf4 (by rw [F.K]; exact qlw) qjT ha hb
theorem qjk (ha:PE X a (rE c fa)) (hb:PE X b (rE c fb)):PE X (.BinOp a .Sub b pos) (rE c (eOp dSub fa fb)):=qf4 op_sub qjU ha hb
theorem qaW (F:Fit X c k) (ha:PE X a (rE c fa)) (hb:PE X b (rE c fb)):PE X (.BinOp a .Mult b pos) (rE c (eOp dMul fa fb)):=qf4 (by rw [F.K]; exact qlx) qj0 ha hb
theorem qco (ha:PE X a (rE c fa)) (hb:PE X b (rE c fb)):PE X (.BinOp a .Mod b pos) (rE c (eOp dMod fa fb)):=qf4 op_mod qjV ha hb
theorem qef (ha:PE X a (rE c fa)) (hb:PE X b (rE c fb)):PE X (.BinOp a .FloorDiv b pos) (rE c (eOp dDiv fa fb)):=qf4 op_fdivW qjW ha hb
theorem qgM (ha:PE X a (rE c fa)) (hb:PE X b (rE c fb)):PE X (.BinOp a .Pow b pos) (rE c (eOp dPow fa fb)):=qf4 op_pow qjX ha hb
theorem qlI (F:Fit X c k):OpR X (compareOp .Eq) (rrEq c.K):=by rw [F.K]; exact (op_eqD F.rm.units).or (qj1 (Nat.lt_of_le_of_lt (Nat.le_add_right _ _) F.rm.units))
theorem qnC (F:Fit X c k):OpR X (compareOp .NotEq) (rrNe c.K):=by rw [F.K]; exact (op_neD F.rm.units).or (qj2 (Nat.lt_of_le_of_lt (Nat.le_add_right _ _) F.rm.units))
theorem qjl (F:Fit X c k):OpR X (compareOp .In) (rrIn c.K):=by rw [F.K]; exact qny F
theorem qgN (F:Fit X c k):OpR X (compareOp .NotIn) (rrNotIn c.K):=by rw [F.K]; exact qh8 F
theorem qlJ (F:Fit X c k) (ha:PE X a (rE c fa)) (hb:PE X b (rE c fb)):PE X (.Compare a [.Eq] [b] pos) (rE c (eCmp dEq fa fb)):=qfl (qlI F) qjb ha hb (nomark _)
theorem qkh (F:Fit X c k) (ha:PE X a (rE c fa)) (hb:PE X b (rE c fb)):PT X (.Compare a [.Eq] [b] pos) (rT c (tCmp dEq fa fb)):=qcl (qlI F) qjb ha hb (nomark _)
theorem qbV (F:Fit X c k) (ha:PE X a (rE c fa)) (hb:PE X b (rE c fb)):PT X (.Compare a [.NotEq] [b] pos) (rT c (tCmp dNe fa fb)):=qcl (qnC F) qly ha hb (nomark _)
theorem qnD (ha:PE X a (rE c fa)) (hb:PE X b (rE c fb)):PE X (.Compare a [.Lt] [b] pos) (rE c (eCmp dLt fa fb)):=qfl op_lt qjc ha hb (nomark _)
theorem qnE (ha:PE X a (rE c fa)) (hb:PE X b (rE c fb)):PT X (.Compare a [.Lt] [b] pos) (rT c (tCmp dLt fa fb)):=qcl op_lt qjc ha hb (nomark _)
theorem qdL (ha:PE X a (rE c fa)) (hb:PE X b (rE c fb)):PT X (.Compare a [.Gt] [b] pos) (rT c (tCmp dGt fa fb)):=qcl op_gt qlz ha hb (nomark _)
theorem qnF (ha:PE X a (rE c fa)) (hb:PE X b (rE c fb)):PT X (.Compare a [.GtE] [b] pos) (rT c (tCmp dGe fa fb)):=qcl op_ge qlA ha hb (nomark _)
theorem qnG (ha:PE X a (rE c fa)) (hb:PE X b (rE c fb)):PE X (.Compare a [.Is] [b] pos) (rE c (eCmp dIs fa fb)):=qfl qjd qje ha hb (nomark _)
theorem qlK (ha:PE X a (rE c fa)) (hb:PE X b (rE c fb)):PT X (.Compare a [.Is] [b] pos) (rT c (tCmp dIs fa fb)):=qcl qjd qje ha hb (nomark _)
theorem qlL (F:Fit X c k) (ha:PE X a (rE c fa)) (hb:PE X b (rE c fb)) (hm:behindInMarks .In b=false:=by rfl):PE X (.Compare a [.In] [b] pos) (rE c (eCmp dIn fa fb)):=qfl (qjl F) qjh ha hb hm
theorem qlM (F:Fit X c k) (ha:PE X a (rE c fa)) (hb:PE X b (rE c fb)) (hm:behindInMarks .In b=false:=by rfl):PT X (.Compare a [.In] [b] pos) (rT c (tCmp dIn fa fb)):=qcl (qjl F) qjh ha hb hm
theorem qfp (F:Fit X c k) (ha:PE X a (rE c fa)) (hb:PE X b (rE c fb)) (hm:behindInMarks .NotIn b=false:=by rfl):PT X (.Compare a [.NotIn] [b] pos) (rT c (tCmp dNotIn fa fb)):=qcl (qgN F) qgB ha hb hm
theorem qb7 {x s:Str} (ho:okS s=true) (hg:Gl X x) (hm:∃ t,X.mg x=some (.str s t)) (hd:(x == ("__debug__" : Str))=false:=by decide):PE X (.Name x pos) (rE c (eC (.str s))):=by
 obtain ⟨t,hm⟩:=hm
 exact qeG hg hm (v:=.str s) (fun _ _=>.str s ho) ⟨t,rfl⟩ hd
theorem qbo {x:Str} {i:Int} (hg:Gl X x) (hm:∃ t,X.mg x=some (.int i t)) (hd:(x == ("__debug__" : Str))=false:=by decide):PE X (.Name x pos) (rE c (eC (.int i))):=by
 obtain ⟨t,hm⟩:=hm
 exact qeG hg hm (v:=.int i) (fun _ _=>.int i) ⟨t,rfl⟩ hd
section
variable {e:Expr} {es:List Expr} {l:EL} {p:Pos}
theorem qaG (F:Fit X c k) (hm:X.mg "len" = none) (ha:PA X [e] (rL c l)) (hg:Gl X "len":=by rfl) (hst:starEach [e] X.env=(false,eval e X.env)::starEach [] X.env:=by rfl):PE X (.Call (.Name "len" p) [e] [] pos) (rE c (eFun dLen l)):=
 qcn (r:=rLenD c.K) (by rw [F.K]; exact qlC) qj7 hg hm PySem.boot_len ha (by decide) (by decide) hst (by rfl)
theorem qki (F:Fit X c k) (hm:X.mg "int" = none) (ha:PA X [e] (rL c l)) (hg:Gl X "int":=by rfl) (hst:starEach [e] X.env=(false,eval e X.env)::starEach [] X.env:=by rfl):PE X (.Call (.Name "int" p) [e] [] pos) (rE c (eFun dInt l)):=
 qgD call_int1 qj8 hg hm (by decide +kernel) ha (by decide) (by decide) hst (by rfl)
theorem qbh {M:Bool} (F:Fit X c k) (hm:X.mg "list" = none) (ha:PA X [e] (rL c l)) (hg:Gl X "list":=by rfl) (hst:starEach [e] X.env=(false,eval e X.env)::starEach [] X.env:=by rfl):PE X (.Call (.Name "list" p) [e] [] pos) (rE c (eFunL M dList l)):=
 qib (r:=rrList c.K) (by rw [F.K]; exact qj9 F) qid hg hm (by decide +kernel) ha (by decide) (by decide) hst (by rfl)
theorem qgO (F:Fit X c k) (hm:X.mg "tuple" = none) (ha:PA X [e] (rL c l)) (hg:Gl X "tuple":=by rfl) (hst:starEach [e] X.env=(false,eval e X.env)::starEach [] X.env:=by rfl):PE X (.Call (.Name "tuple" p) [e] [] pos) (rE c (eFun dTuple l)):=
 qgD (by rw [F.K]; exact call_tuple_of) qgE hg hm (by decide +kernel) ha (by decide) (by decide) hst (by rfl)
theorem qc1 (F:Fit X c k) (hm:X.mg "all" = none) (ha:PA X [e] (rL c l)) (hg:Gl X "all":=by rfl) (hst:starEach [e] X.env=(false,eval e X.env)::starEach [] X.env:=by rfl):PE X (.Call (.Name "all" p) [e] [] pos) (rE c (eFun dAll l)):=
 qcn (r:=rAll c.K) (by rw [F.K]; exact cr_all F.calm) qkc hg hm (by decide +kernel) ha (by decide) (by decide) hst (by rfl)
theorem qgP (F:Fit X c k) (hm:X.mg "sum" = none) (ha:PA X [e] (rL c l)) (hg:Gl X "sum":=by rfl) (hst:starEach [e] X.env=(false,eval e X.env)::starEach [] X.env:=by rfl):PE X (.Call (.Name "sum" p) [e] [] pos) (rE c (eFun dSum l)):=
 qcn (r:=rSum c.K) (by rw [F.K]; exact cr_sum F.calm) qkd hg hm (by decide +kernel) ha (by decide) (by decide) hst (by rfl)
theorem qdM {e2:Expr} (F:Fit X c k) (hm:X.mg "max" = none) (ha:PA X [e,e2] (rL c l)) (hg:Gl X "max":=by rfl) (hst:starEach [e,e2] X.env=(false,eval e X.env)::starEach [e2] X.env:=by rfl) (hpl:(backTo pos (starEach [e2] X.env)).any (·.1)=false:=by rfl):PE X (.Call (.Name "max" p) [e,e2] [] pos) (rE c (eFun dMax l)):=
 qcn (call_max2 F.calm) qka hg hm (by decide +kernel) ha (by decide) (by decide) hst hpl
theorem qgQ {e2:Expr} (F:Fit X c k) (hm:X.mg "min" = none) (ha:PA X [e,e2] (rL c l)) (hg:Gl X "min":=by rfl) (hst:starEach [e,e2] X.env=(false,eval e X.env)::starEach [e2] X.env:=by rfl) (hpl:(backTo pos (starEach [e2] X.env)).any (·.1)=false:=by rfl):PE X (.Call (.Name "min" p) [e,e2] [] pos) (rE c (eFun dMin l)):=
 qcn (call_min2 F.calm) qkb hg hm (by decide +kernel) ha (by decide) (by decide) hst hpl
theorem qav {e2:Expr} (F:Fit X c k) (hm:X.mg "isinstance" = none) (ha:PA X [e,e2] (rL c l)) (hg:Gl X "isinstance":=by rfl) (hst:starEach [e,e2] X.env=(false,eval e X.env)::starEach [e2] X.env:=by rfl) (hpl:(backTo pos (starEach [e2] X.env)).any (·.1)=false:=by rfl):PE X (.Call (.Name "isinstance" p) [e,e2] [] pos) (rE c (eFun dIsInst l)):=
 qcn (r:=rIsi c.K) (by rw [F.K]; exact call_isi) qf9 hg hm (by decide +kernel) ha (by decide) (by decide) hst hpl
end
end

theorem SqL.hidT {K:PySem.W.Frag} {H:Hp} {a:Addr} {vs:List V} (hT:∀ p∈TabI.T,H p.1=some (.tbl #[])) (h:SqL K H a vs):SqL K (hid H) a vs:=by
 have n:∀ o,H a=some o→(∀ ps,o≠.tbl ps)→hid H a=some o:=fun o e q=>(qdo fun ⟨p,hp,z⟩=>by
  have y:=hT p hp
  rw [z,e] at y
  exact q _ (Option.some.inj y)).trans e
 rcases h with (h | ⟨o,h⟩) | h
 ·exact .inl (.inl (n _ h (fun _ z=>by cases z)))
 ·exact .inl (.inr ⟨o,n _ h (fun _ z=>by cases z)⟩)
 ·exact .inr h
theorem MemOk.start {K:PySem.W.Frag} {mg:Str→Option Value} {w:World} {H:Hp} {W:WX} (hT:∀ p∈TabI.T,H p.1=some (.tbl #[])):MemOk ⟨K,mg,w,none,hid H,hid H,W⟩ (hid H) [] [] H:=
 ⟨qbR,qbR,Same.refl _,fun a o _ q=>q,rfl,wbw,fun n a k e=>by simp at e,fun a ha=>by simp at ha,fun a ha=>by simp at ha,fun p hp=>⟨if_pos ⟨p,hp,rfl⟩,if_pos ⟨p,hp,rfl⟩,by simp,#[],hT p hp,True.intro,fun pos cv hc=>by
  have z:codeAmong pos []=some cv:=hc
  simp [codeAmong] at z⟩⟩
def spLaw (K:PySem.W.Frag):Sp:=fun vs H Q _=>∃ (a:Addr) (ns:List Int),vs=[.ref a]∧SqL K H a (ns.map V.int)∧ns.length≤63∧(∀ p∈TabI.T,H p.1=some (.tbl #[]))∧∀ H',Q (.bl true) H'
theorem qlN {P:Program} {w:World} {K:PySem.W.Frag} {mg:Str→Option Value} {base:Heap} {k:Nat} {f:F} {fa:Addr} {fd:FuncData} {ps:List Str} (h1:FnOk P w K mg base (L2.CX P w) k fa fd ps (spD K mg w 1 f)) (hf:∀ ns:List Int,ns.length≤63→∃ m',f [.lst (ns.map D.int)] [] = .ok (.bl true) m') :
  FnOk P w K mg base (L2.CX P w) k fa fd ps (spLaw K):=by
 refine h1.imp ?_
 rintro vs H Q E ⟨b,ns,rfl,hs,hl,hT,q⟩
 obtain ⟨m',e⟩:=hf ns hl
 have hr:∀ ms:List Int,RepL K mg none (hid H) [] (ms.map D.int) (ms.map V.int):=fun ms=>by
  induction ms with
  | nil=>exact .nil
  | cons m ms ih=>exact .cons (.int m) ih
 refine ⟨rfl,[.lst (ns.map D.int)],[],hid H,hid H,[],MemOk.start hT,.cons (.lst (SqL.hidT hT hs) (hr ns)) .nil,?_⟩
 rw [e]
 intro v H' G' μ' _ _ r
 cases r
 exact q _
end TT

set_option maxHeartbeats 2000000
namespace TT
open PySem PySem.Spec PyProof.Rows L2
variable [TabI]
section
variable {X:Cx} {c:Ct} {G:Hp} {μ:List Addr} {ρ:Ev} {m:Mem} {σ:L2.St} {H:Hp}
theorem Sim.frzVar {i n:Nat} {xs:List D} (S:Sim c G μ ρ m σ H) (hi:ρ[i]? = some (some (.loc n))) (hm:m[n]? = some (.lst xs)):∃ G',Sim c G' μ (ρ.set i (some (.lst xs))) (m.set n .dead) σ H∧Gr G μ G' μ:=by
 obtain ⟨v,hv,r⟩:=S.env i _ hi
 cases r with
 | loc hμ=>
  rename_i a
  obtain ⟨vs,S2,g2,r2⟩:=S.frz hμ hm
  refine ⟨_,⟨S2.mem,fun j d e=>?_,by simp [S2.len]⟩,g2⟩
  by_cases hj:i=j
  ·subst hj
   have hl:i < ρ.length:=(waj.mp hi).1
   rw [waz hl] at e
   obtain rfl:D.lst xs=d:=by simpa using e
   exact ⟨_,hv,r2⟩
  ·rw [waF hj] at e
   exact S2.env j d e
theorem qdr {st:Stmt} {b:S} (i:Nat) (h:PS X st (rS c b)):PS X st (rS c (sThenF b i)):=by
 refine h.imp ?_
 rintro D σ H ⟨ρ,m,G,μ,S,h⟩
 refine ⟨ρ,m,G,μ,S,?_⟩
 unfold sThenF at h
 cases e:b ρ m with
 | nx ρ1 m1=>
  rw [e] at h
  intro σ1 H1 G1 μ1 S1 g1
  have h:PostS c G μ D (frzAt i ρ1 m1):=h
  have same:PostS c G μ D (.nx ρ1 m1)→D.nx σ1 H1:=fun z=>z σ1 H1 G1 μ1 S1 g1
  unfold frzAt at h
  split at h
  ·rename_i n hi
   split at h
   ·rename_i xs hm
    obtain ⟨G',S2,g2⟩:=S1.frzVar hi hm
    exact h σ1 H1 G' μ1 S2 (g1.trans g2)
   ·exact same h
  ·exact same h
 | bk ρ1 m1=>rw [e] at h; exact h
 | ct ρ1 m1=>rw [e] at h; exact h
 | rt d m1=>rw [e] at h; exact h
 | exc x ρ1 m1=>rw [e] at h; exact h
 | bad=>rw [e] at h; exact h
theorem Rep.flat {d:D} {v:V} {K:PySem.W.Frag} {mg:Str→Option Value} {xo xo' : XO} {G G' : Hp} {μ μ' : List Addr} (hf:flatB d=true) (r:Rep K mg xo G μ d v):Rep K mg xo' G' μ' d v:=by
 cases d with
 | non=>cases r; exact .non
 | bl b=>cases r; exact .bl b
 | int i=>cases r; exact .int i
 | str s=>cases r with | str _ h=>exact .str s h
 | _=>cases hf
theorem qbp:PTs X [] (rT c tYes):=by
 refine ⟨fun pins s σ H Q I q=>pts_nil.run pins s σ H Q I ?_⟩
 obtain ⟨ρ,m,G,μ,S,h⟩:=q
 exact h _ _ _ S Gr.refl
theorem qim {k:Nat} {o e:Expr} {fo:E} {l:EL} {apos cpos:Pos} (F:Fit X c k) (ho:PE X o (rE c fo)) (ha:PA X [e] (rL c l))
  (hbase:attributeBase o "join" X.env (eval o X.env)=eval o X.env:=by rfl)
  (hfew:((backTo cpos (starEach [e] X.env)).all (fun x=>!x.1) && (backToKw cpos (keywordEach [] X.env)).all (fun x=>x.1.isSome)
   && decide ([e].length+([]:List Keyword).length+(if ([]:List Keyword).isEmpty then 0 else 1) < 30))=true:=by rfl)
  (hline:(apos.endLine == cpos.line)=true:=by rfl) (hst:starEach [e] X.env=(false,eval e X.env)::starEach [] X.env:=by rfl) (hpl:(backTo cpos (starEach [] X.env)).any (·.1)=false:=by rfl) :
  PE X (.Call (.Attribute o "join" apos) [e] [] cpos) (rE c (eMeth "str" mJoin fo l)):=
 qeK F PySem.F.plainAttrs_str PySem.F.slot_str_join PySem.F.type_str_join (.inl rfl) (by rw [F.K]; exact mt_join) qij ho ha hbase hfew hline hst hpl
theorem qeg {k:Nat} {o e:Expr} {fo:E} {l:EL} {apos cpos:Pos} (F:Fit X c k) (ho:PE X o (rE c fo)) (ha:PA X [e] (rL c l))
  (hbase:attributeBase o "index" X.env (eval o X.env)=eval o X.env:=by rfl)
  (hfew:((backTo cpos (starEach [e] X.env)).all (fun x=>!x.1) && (backToKw cpos (keywordEach [] X.env)).all (fun x=>x.1.isSome)
   && decide ([e].length+([]:List Keyword).length+(if ([]:List Keyword).isEmpty then 0 else 1) < 30))=true:=by rfl)
  (hline:(apos.endLine == cpos.line)=true:=by rfl) (hst:starEach [e] X.env=(false,eval e X.env)::starEach [] X.env:=by rfl) (hpl:(backTo cpos (starEach [] X.env)).any (·.1)=false:=by rfl) :
  PE X (.Call (.Attribute o "index" apos) [e] [] cpos) (rE c (eMeth "list" mIndex fo l)):=
 qeK F PySem.F.plainAttrs_list PySem.F.slot_list_index PySem.F.type_list_index (.inr rfl) (by rw [F.K]; exact mt_indexD (by have:=F.rm.un; omega)) qgJ ho ha hbase hfew hline hst hpl
end
end TT

namespace TT
open PySem
section
variable (ρ:Ev) (m:Mem)
@[simp] theorem eC_a (d:D):eC d ρ m = .ok d m:=nr rfl
@[simp] theorem qds (i:Nat):eVar i ρ m=match ρ[i]? with
 | some (some d)=>.ok d m
 | _=>.bad:=nr rfl
@[simp] theorem qgR (g:D→D→Option D) (a b:E):eOp g a b ρ m=(a ρ m).bind fun x m=>(b ρ m).bind fun y m=>.of m (g (view m x) (view m y)):=nr rfl
@[simp] theorem qeM (g:D→Option D) (a:E):eUn g a ρ m=(a ρ m).bind fun x m=>.of m (g (view m x)):=nr rfl
@[simp] theorem qeh (g:D→D→Option Bool) (a b:E):eCmp g a b ρ m=(a ρ m).bind fun x m=>(b ρ m).bind fun y m=>.of m ((g (view m x) (view m y)).map D.bl):=nr rfl
@[simp] theorem qfq (g:D→D→Option Bool) (a b:E):tCmp g a b ρ m=(a ρ m).bind fun x m=>(b ρ m).bind fun y m=>.of m (g (view m x) (view m y)):=nr rfl
@[simp] theorem qfr (a:E):tVal a ρ m=(a ρ m).bind fun x m=>.of m (dTruth (view m x)):=nr rfl
@[simp] theorem qei (t:ET):tNot t ρ m=(t ρ m).bind fun b m=>.ok (!b) m:=nr rfl
@[simp] theorem qfs (t u:ET):tAnd t u ρ m=(t ρ m).bind fun b m=>if b=true then u ρ m else .ok false m:=nr rfl
@[simp] theorem qgS (t u:ET):tOr t u ρ m=(t ρ m).bind fun b m=>if b=true then .ok true m else u ρ m:=nr rfl
@[simp] theorem qft (a b:E):eAnd a b ρ m=(a ρ m).bind fun x m=>(R.of m (dBool x)).bind fun k m=>if k=true then b ρ m else .ok (.bl false) m:=nr rfl
@[simp] theorem qin (a b:E):eOr a b ρ m=(a ρ m).bind fun x m=>(R.of m (dBool x)).bind fun k m=>if k=true then .ok (.bl true) m else b ρ m:=nr rfl
@[simp] theorem qfu (a:E):eNot a ρ m=(a ρ m).bind fun x m=>(R.of m (dBool x)).bind fun k m=>.ok (.bl (!k)) m:=nr rfl
@[simp] theorem qio (t:ET) (a b:E):eIf t a b ρ m=(t ρ m).bind fun k m=>if k=true then a ρ m else b ρ m:=nr rfl
@[simp] theorem qdt:lNil ρ m = .ok [] m:=nr rfl
@[simp] theorem qc2 (a:E) (r:EL):lCons a r ρ m=(a ρ m).bind fun x m=>(r ρ m).bind fun xs m=>.ok (x::xs) m:=nr rfl
@[simp] theorem qfv (l:EL):eTup l ρ m=(l ρ m).bind fun xs m=>if xs.length≤LN then .ok (.tup xs) m else .bad:=nr rfl
@[simp] theorem qej (M:Bool) (l:EL):eLst M l ρ m=(l ρ m).bind fun xs m=>if xs.length≤LN then mkL M xs m else .bad:=nr rfl
@[simp] theorem qek (g:List D→Option D) (l:EL):eFun g l ρ m=(l ρ m).bind fun xs m=>.of m (g (xs.map (view m))):=nr rfl
@[simp] theorem qc3 (M:Bool) (g:List D→Option (List D)) (l:EL):eFunL M g l ρ m=(l ρ m).bind fun xs m=>(R.of m (g (xs.map (view m)))).bind fun ys m=>mkL M ys m:=nr rfl
@[simp] theorem qeN:eDct0 ρ m = .ok (.dct []) m:=nr rfl
@[simp] theorem qfw (a:E):iSeq a ρ m=(a ρ m).bind fun x m=>.of m (dItems x):=nr rfl
def rangeOf (n:Int) (m:Mem):R (List D):=if -(2 ^ 62)≤n∧n < 2 ^ 62 then .ok (dRange n) m else .bad
theorem qa2 {n:Nat} {m:Mem} (h:n≤16777216):rangeOf (n:Nat) m = .ok (dRange (n:Nat)) m:=if_pos (by
 have:(2:Int) ^ 62=4611686018427387904:=by decide +kernel
 rw [this]
 omega)
@[simp] theorem qcK (a:E):iRange a ρ m=(a ρ m).bind fun x m=>match x with
 | .int n=>rangeOf n m
 | _=>.bad:=nr rfl
@[simp] theorem qlO (l:EL):iRange2 l ρ m=(l ρ m).bind fun ds m=>match ds with
 | [.int i,.int j]=>if (-(2 ^ 62)≤i∧i < 2 ^ 62)∧(-(2 ^ 62)≤j∧j < 2 ^ 62) then .ok (dRange2 i j) m else .bad
 | _=>.bad:=nr rfl
@[simp] theorem qkj (l:EL):iEnum l ρ m=(l ρ m).bind fun ds m=>match ds with
 | [.lst xs]=>.ok (dEnum xs) m
 | _=>.bad:=nr rfl
@[simp] theorem qeO:sNext ρ m = .nx ρ m:=nr rfl
@[simp] theorem qaK (a b:S):sSeq a b ρ m=match a ρ m with
 | .nx ρ m=>b ρ m
 | o=>o:=nr rfl
@[simp] theorem qel (t:ET) (a b:S):sIf t a b ρ m=(t ρ m).then ρ fun k m=>if k=true then a ρ m else b ρ m:=nr rfl
@[simp] theorem qcp (a:E):sRet a ρ m=(a ρ m).then ρ fun d m=>.rt d m:=nr rfl
@[simp] theorem qeP:sRetN ρ m = .rt .non m:=nr rfl
@[simp] theorem qdN (a:E):sExpr a ρ m=(a ρ m).then ρ fun _ m=>.nx ρ m:=nr rfl
@[simp] theorem qdO:sBreak ρ m = .bk ρ m:=nr rfl
@[simp] theorem qeQ:sCont ρ m = .ct ρ m:=nr rfl
@[simp] theorem qem (i:Nat) (a:E):sSet i a ρ m=(a ρ m).then ρ fun d m=>.nx (ρ.set i (some d)) m:=nr rfl
@[simp] theorem qfx (a:E) (g:T):sAsg a g ρ m=(a ρ m).then ρ fun d m=>match g d ρ with
 | some ρ=>.nx ρ m
 | none=>.bad:=nr rfl
@[simp] theorem qbi (i:Nat) (d:D):gName i d ρ=some (ρ.set i (some d)):=nr rfl
@[simp] theorem qeR:gsNil [] ρ=some ρ:=nr rfl
@[simp] theorem qcL (t:T) (u:Ts) (d:D) (r:List D):gsCons t u (d::r) ρ=(t d ρ).bind fun ρ=>u r ρ:=nr rfl
@[simp] theorem qfy (n:Nat) (t:Ts) (xs:List D):gTup n t (.tup xs) ρ=if xs.length=n then t xs ρ else none:=nr rfl
@[simp] theorem qfz (n:Nat) (t:Ts) (xs:List D):gTup n t (.lst xs) ρ=if xs.length=n then t xs ρ else none:=nr rfl
@[simp] theorem qfA (i:EL) (g:T) (b:S):sFor i g b ρ m=(i ρ m).then ρ fun ds m=>forL g b ds ρ m:=nr rfl
@[simp] theorem qip (g:T) (b:S):forL g b [] ρ m = .nx ρ m:=nr rfl
@[simp] theorem qcM (b:S) (i:Nat):sThenF b i ρ m=match b ρ m with
 | .nx ρ m=>frzAt i ρ m
 | o=>o:=nr rfl
@[simp] theorem qc4 (M:Bool) (i:EL) (g:T) (t:ET) (e:E) (vs:List Nat):eComp M i g t e vs ρ m=(i ρ m).bind fun ds m=>(compL g t e (wipeE ρ vs) ds [] m).bind fun ys m=>mkL M ys m:=nr rfl
@[simp] theorem qdu:tYes ρ m = .ok true m:=nr rfl
@[simp] theorem qfB (a:E) (lo hi:EO):eCut a lo hi ρ m=(a ρ m).bind fun x m=>(lo ρ m).bind fun l m=>(hi ρ m).bind fun h m=>.of m (dCut l h (view m x)):=nr rfl
@[simp] theorem qkk:oNo ρ m = .ok none m:=nr rfl
@[simp] theorem qdP (a:E):oSome a ρ m=(a ρ m).bind fun x m=>match x with
 | .int i=>.ok (some i) m
 | _=>.bad:=nr rfl
@[simp] theorem qdQ (T:String) (g:D→List D→Option D) (a:E) (l:EL):eMeth T g a l ρ m=(a ρ m).bind fun x m=>if tyIs T (view m x)=some true then (l ρ m).bind fun xs m=>.of m (g (view m x) (xs.map (view m))) else .bad:=nr rfl
@[simp] theorem qc5 (a l:E):eAppend a l ρ m=(a ρ m).bind fun x m=>if tyIs "list" (view m x)=some true then (l ρ m).bind fun y m=>(match x with
 | .loc n=>(match m[n]? with
  | some (.lst xs)=>if xs.length < LN then .ok .non (m.set n (.lst (xs++[y]))) else .bad
  | _=>.bad)
 | _=>.bad) else .bad:=nr rfl
@[simp] theorem qdR (v o i:E):sSetIx v o i ρ m=(v ρ m).then ρ fun y m=>(o ρ m).then ρ fun x m=>(i ρ m).then ρ fun k m=>match x,k with
 | .loc n,.int k=>(match m[n]? with
  | some (.lst xs)=>(match dIxN xs.length k with
   | some j=>.nx ρ (m.set n (.lst (xs.set j y)))
   | none=>.bad)
  | _=>.bad)
 | _,_=>.bad:=nr rfl
@[simp] theorem qbW:wipeE ρ []=ρ:=nr rfl
@[simp] theorem qbA (v:Nat) (vs:List Nat):wipeE ρ (v::vs)=(wipeE ρ vs).set v none:=nr rfl
@[simp] theorem qbX (n:Nat) (b:S) (ds:List D):runDef n b ds m=(b (ds.map some++List.replicate (n - ds.length) none) m).end:=nr rfl
@[simp] theorem qgT:(O.nx ρ m).end = .ok .non m:=nr rfl
@[simp] theorem qfC (d:D):(O.rt d m).end = .ok d m:=nr rfl
@[simp] theorem qdS (e:D):(O.exc e ρ m).end = .exc e m:=nr rfl
theorem qaL (g:T) (b:S) (d:D) (ds:List D):forL g b (d::ds) ρ m=match g d ρ with
  | none=>.bad
  | some ρ=>match b ρ m with
   | .nx ρ m=>forL g b ds ρ m
   | .ct ρ m=>forL g b ds ρ m
   | .bk ρ m=>.nx ρ m
   | o=>o:=nr rfl
theorem qb8 (g:T) (t:ET) (e:E) (d:D) (ds acc:List D):compL g t e ρ (d::ds) acc m=match g d ρ with
  | none=>.bad
  | some ρ'=>match t ρ' m with
   | .ok true m=>(match e ρ' m with
    | .ok y m=>if acc.length < LN then compL g t e ρ ds (acc++[y]) m else .bad
    | _=>.bad)
   | .ok false m=>compL g t e ρ ds acc m
   | _=>.bad:=nr rfl
@[simp] theorem qlP (g:T) (t:ET) (e:E) (acc:List D):compL g t e ρ [] acc m = .ok acc m:=nr rfl
end
theorem qfD {M:Bool} {n:Nat} {f:F} {l:EL} {ρ:Ev} {m m1:Mem} {ds:List D} {d:D} (hl:l ρ m = .ok ds m1) (hn:ds.length=n) (hd:noLocs ds=true) (hf:∃ m',f ds [] = .ok d m') (h:noLoc d=true):eCall false n f l ρ m = .ok d m1:=by
 obtain ⟨m',hf⟩:=hf
 unfold eCall
 rw [hl]
 simp only [R.bind_ok,hn,hd,and_self,if_true,hf]
 cases d with
 | loc j=>simp [noLoc] at h
 | _=>simp only [h,and_self,if_true]
theorem qcN {g:T} {b:S} {R:O→Prop} (I:Nat→Ev→Mem→Prop):∀ (ds:List D) (i:Nat) (ρ:Ev) (m:Mem),I i ρ m →
  (∀ (j:Nat) (d:D) (ρ:Ev) (m:Mem),ds[j]? = some d→I (i+j) ρ m→∃ ρ1,g d ρ=some ρ1∧((∃ ρ2 m2,(b ρ1 m = .nx ρ2 m2∨b ρ1 m = .ct ρ2 m2)∧I (i+j+1) ρ2 m2)∨(∃ ρ2 m2,b ρ1 m = .bk ρ2 m2∧R (.nx ρ2 m2))∨∃ d2 m2,b ρ1 m = .rt d2 m2∧R (.rt d2 m2))) →
  (∀ ρ m,I (i+ds.length) ρ m→R (.nx ρ m))→R (forL g b ds ρ m)
 | [],i,ρ,m,h0,_,he=>he ρ m h0
 | d::ds,i,ρ,m,h0,hs,he=>by
  obtain ⟨ρ1,e1,h⟩:=hs 0 d ρ m rfl h0
  rw [qaL,e1]
  have next:∀ ρ2 m2,I (i+0+1) ρ2 m2→R (forL g b ds ρ2 m2):=fun ρ2 m2 h2=>qcN I ds (i+1) ρ2 m2 h2 (fun j d ρ m e q=>by
   have:=hs (j+1) d ρ m (by simpa using e) (by rw [show i+(j+1)=i+1+j by omega]; exact q)
   rw [show i+(j+1)=i+1+j by omega] at this
   exact this) (fun ρ m q=>he ρ m (by rw [wab,show i+(ds.length+1)=i+1+ds.length by omega]; exact q))
  rcases h with ⟨ρ2,m2,e2 | e2,h2⟩ | ⟨ρ2,m2,e2,h2⟩ | ⟨d2,m2,e2,h2⟩
  ·simp only [e2]; exact next _ _ h2
  ·simp only [e2]; exact next _ _ h2
  ·simp only [e2]; exact h2
  ·simp only [e2]; exact h2
theorem qbq {g:T} {e:E} {ρ:Ev} (f:D→D):∀ (ds acc:List D) (m:Mem),(∀ d∈ds,∃ ρ',g d ρ=some ρ'∧e ρ' m = .ok (f d) m)→acc.length+ds.length≤LN→compL g tYes e ρ ds acc m = .ok (acc++ds.map f) m
 | [],acc,m,_,_=>by simp
 | d::ds,acc,m,h,hl=>by
  obtain ⟨ρ',h1,h2⟩:=h d (by simp)
  rw [qb8,h1]
  simp only [qdu,h2]
  rw [if_pos (by rw [wab] at hl; omega),qbq f ds (acc++[f d]) m (fun x hx=>h x (by simp [hx])) (by simp at hl ⊢; omega)]
  simp
abbrev sg (c:Nat):D:=.str ⟨#[c]⟩
@[simp] theorem qkl (xs:List Int):noLocs (xs.map D.int)=true:=by induction xs <;> simp_all [noLocs,noLoc]
@[simp] theorem qkm (xs:List Str):noLocs (xs.map D.str)=true:=by induction xs <;> simp_all [noLocs,noLoc]
theorem qas {α:Type} (f:α→D) (h:∀ x,noLoc (f x)=true) (xs:List α):noLocs (xs.map f)=true:=by induction xs <;> simp_all [noLocs]
end TT
namespace TT
@[simp] theorem qeS (xs:List D) (j:Nat):dIx (.lst xs) (.int (j:Nat))=xs[j]?:=by
 unfold dIx dIxN
 simp only [wbs,if_true,Int.ofNat_lt]
 by_cases h:j < xs.length
 ·simp [h]
 ·rw [if_neg h,war (wa4 h)]; rfl
@[simp] theorem qnH (xs:List D) (j:Nat):dIx (.tup xs) (.int (j:Nat))=xs[j]?:=by
 unfold dIx dIxN
 simp only [wbs,if_true,Int.ofNat_lt]
 by_cases h:j < xs.length
 ·simp [h]
 ·rw [if_neg h,war (wa4 h)]; rfl
theorem qkn (s:PySem.Str) (j:Nat) (hs:s.length≤LN):dIx (.str s) (.int (j:Nat))=(s.cps.toList[j]?).map sg:=by
 unfold dIx dIxN
 simp only [wbs,if_true,Int.ofNat_lt,hs]
 by_cases h:j < s.cps.toList.length
 ·rw [if_pos h]; rfl
 ·rw [if_neg h,war (wa4 h)]; rfl
theorem qb9 {n:Nat} {j:Nat} {d:D} (h:(dRange (n:Nat))[j]? = some d):j < n∧d = .int (j:Nat):=by
 unfold dRange at h
 rw [wbe,wal,wad] at h
 obtain ⟨i,h1,h2⟩:=h
 obtain ⟨hj,e⟩:=waj.mp h1
 rw [List.getElem_range] at e
 subst e
 exact ⟨by simpa using hj,h2.symm⟩
@[simp] theorem qbj (n:Nat):(dRange (n:Nat)).length=n:=by simp [dRange]

@[simp] theorem qdT (i j:Int):dAdd (.int i) (.int j)=some (.int (i+j)):=nr rfl
@[simp] theorem qeT (i j:Int):dSub (.int i) (.int j)=some (.int (i - j)):=nr rfl
theorem qbb {i j:Int} (h : -18446744073709551616 < i∧i < 18446744073709551616):dMul (.int i) (.int j)=some (.int (i * j)):=by
 unfold dMul
 exact if_pos (.inl h)
theorem qlQ {i j:Int} (h : -18446744073709551616 < j∧j < 18446744073709551616):dMul (.int i) (.int j)=some (.int (i * j)):=by
 unfold dMul
 exact if_pos (.inr h)
theorem qbr {i j:Int} (h:0 < j):dMod (.int i) (.int j)=some (.int (i % j)):=if_pos h
theorem qc6 {i j:Int} (h:0 < j∧j < 1267650600228229401496703205376):dDiv (.int i) (.int j)=some (.int (i / j)):=if_pos h
@[simp] theorem qgU (i j:Int):dGe (.int i) (.int j)=some (decide (j≤i)):=nr rfl
@[simp] theorem qgV (i j:Int):dGt (.int i) (.int j)=some (decide (j < i)):=nr rfl
@[simp] theorem qgW (i j:Int):dLe (.int i) (.int j)=some (decide (i≤j)):=nr rfl
@[simp] theorem qgX (i j:Int):dLt (.int i) (.int j)=some (decide (i < j)):=nr rfl
@[simp] theorem qgY (xs:List D):dLen [.lst xs]=some (.int xs.length):=nr rfl
@[simp] theorem qgZ (xs:List D):dLen [.tup xs]=some (.int xs.length):=nr rfl
theorem qlR {s:PySem.Str} (h:s.length≤LN):dLen [.str s]=some (.int s.length):=if_pos h
@[simp] theorem qfE (i j:Int):dEq (.int i) (.int j)=some (i == j):=nr rfl
@[simp] theorem qg0 (i j:Int):dNe (.int i) (.int j)=some (i != j):=nr rfl
@[simp] theorem qlS (i j:PySem.Str):dEq (.str i) (.str j)=some (i == j):=nr rfl
@[simp] theorem qob (i j:PySem.Str):dNe (.str i) (.str j)=some (i != j):=nr rfl
@[simp] theorem qg1 (i:Int):dInt [.int i]=some (.int i):=nr rfl
@[simp] theorem qfF (b:Bool):dInt [.bl b]=some (.int (if b then 1 else 0)):=nr rfl
@[simp] theorem qeU (b:Bool):dBool (.bl b)=some b:=nr rfl
@[simp] theorem qdU (b:Bool):dTruth (.bl b)=some b:=nr rfl
@[simp] theorem qdV (xs:List D):dTruth (.lst xs)=some (!xs.isEmpty):=nr rfl
theorem qc7 {i j k:Int} (h:(0≤j∧j≤1000000)∧i.natAbs < 18446744073709551616) (e:i ^ j.toNat=k):dPow (.int i) (.int j)=some (.int k):=by
 unfold dPow
 rw [← e]
 exact if_pos ⟨h.1.1,h.1.2,h.2⟩
@[simp] theorem qen:dPow (.int 10) (.int 18)=some (.int 1000000000000000000):=qc7 (by decide) (by decide +kernel)
@[simp] theorem qnr:dPow (.int 26) (.int 3)=some (.int 17576):=qc7 (by decide) (by decide +kernel)
@[simp] theorem qns:dPow (.int 10) (.int 6)=some (.int 1000000):=qc7 (by decide) (by decide +kernel)
@[simp] theorem qlT:dPow (.int 10) (.int 20)=some (.int 100000000000000000000):=qc7 (by decide) (by decide +kernel)
@[simp] theorem qlU:dPow (.int 10) (.int 30)=some (.int 1000000000000000000000000000000):=qc7 (by decide) (by decide +kernel)
@[simp] theorem qg2 (xs:List D) (T:String):tyIs T (.lst xs)=some (T == "list"):=nr rfl
@[simp] theorem qg3 (s:PySem.Str) (T:String):tyIs T (.str s)=some (T == "str"):=nr rfl
theorem qeV {m:Mem} {n:Nat} {xs:List D} (h:m[n]? = some (.lst xs)):view m (.loc n) = .lst xs:=by
 show (match m[n]? with
  | some (.lst xs)=>D.lst xs
  | some (.dct ps)=>.dct ps
  | _=>.loc n) = .lst xs
 rw [h]
end TT
namespace TT
abbrev tx (l:List Nat):D:=.str ⟨l.toArray⟩
theorem qcq (l:List Nat):(PySem.Str.mk l.toArray).length=l.length:=by simp [PySem.Str.length]
theorem qeW {a b:List Nat} (h:a.length+b.length≤16777216):dAdd (tx a) (tx b)=some (tx (a++b)):=by
 show (if (PySem.Str.mk a.toArray).length+(PySem.Str.mk b.toArray).length≤LN then some (D.str (PySem.Str.mk a.toArray++PySem.Str.mk b.toArray)) else none)=_
 rw [if_pos (by rw [qcq,qcq]; exact h)]
 congr 2
 show PySem.Str.mk (a.toArray++b.toArray)=_
 rw [wbq]
theorem qlV {l:List Nat} {i:Int} {c:Nat} (h:l.length≤16777216) (h0:0≤i) (hc:l[i.toNat]? = some c):dIx (tx l) (.int i)=some (sg c):=by
 have:=qkn ⟨l.toArray⟩ i.toNat (by rw [qcq]; exact h)
 rw [Int.toNat_of_nonneg h0] at this
 rw [this]
 simp [hc]
theorem qdv:PySem.Str.ofString "abcdefghijklmnopqrstuvwxyz" = ⟨((List.range 26).map (97 + ·)).toArray⟩:=by decide +kernel
end TT
namespace TT
def pl (i:Nat):Nat:=if i < 5 then 32+i else 33+i
def pln:List Nat:=(List.range 94).map pl
theorem qfG:PySem.Str.ofString " !\"#$&'()*+,-./0123456789:;<=>?@ABCDEFGHIJKLMNOPQRSTUVWXYZ[\\]^_`abcdefghijklmnopqrstuvwxyz{|}~" = ⟨pln.toArray⟩:=by decide +kernel
theorem qko:pln.length=94:=by decide +kernel
theorem qc8:∀ xs:List PySem.Str,dStrs (xs.map D.str)=some xs
 | []=>rfl
 | x::xs=>by
  rw [wah]
  show (dStrs (xs.map D.str)).map (x :: ·)=_
  rw [qc8 xs]
  rfl
def srt (cs:List Nat):List Nat:=cs.mergeSort fun a b=>decide (a≤b)
theorem qgb (cs:List Nat):(srt cs).length=cs.length:=List.length_mergeSort _
theorem qiq (cs:List Nat):(srt cs).Perm cs:=wbi _ _
theorem le1 (a b:Nat):([a]≤[b])↔a≤b:=by
 rw [List.cons_le_cons_iff]
 constructor
 ·rintro (h | ⟨h,_⟩) <;> omega
 ·intro h
  rcases Nat.lt_or_eq_of_le h with h | h
  ·exact .inl h
  ·exact .inr ⟨h,by simp⟩
theorem e0:PySem.Str.ofString "" = ⟨([]:List Nat).toArray⟩:=by decide +kernel
theorem qfH:∀ ls:List (List Nat),PySem.Str.join ⟨([]:List Nat).toArray⟩ (ls.map fun l=>⟨l.toArray⟩)=⟨ls.flatten.toArray⟩
 | []=>rfl
 | [l]=>by simp [PySem.Str.join]
 | l::l2::ls=>by
  have ih:=qfH (l2::ls)
  rw [wah,wah]
  show (PySem.Str.mk l.toArray++PySem.Str.mk ([]:List Nat).toArray)++PySem.Str.join ⟨([]:List Nat).toArray⟩ ((l2::ls).map fun l=>⟨l.toArray⟩)=_
  rw [ih]
  show PySem.Str.mk ((l.toArray++([]:List Nat).toArray)++(l2::ls).flatten.toArray)=_
  rw [wbq,wbq,wa0]
  rfl
theorem qg4 {ls:List (List Nat)} (h:ls.flatten.length≤16777216):mJoin (.str "") [.lst (ls.map tx)]=some (tx ls.flatten):=by
 have e:ls.map tx=(ls.map fun c=>PySem.Str.mk c.toArray).map D.str:=by rw [waT]; rfl
 rw [e0]
 show (dStrs (ls.map tx)).bind _=_
 rw [e,qc8]
 show (if ((ls.map fun c=>PySem.Str.mk c.toArray).map (·.length)).sum+(ls.map fun c=>PySem.Str.mk c.toArray).length * (PySem.Str.mk ([]:List Nat).toArray).length≤LN then some (D.str (PySem.Str.join ⟨([]:List Nat).toArray⟩ (ls.map fun c=>PySem.Str.mk c.toArray))) else none)=_
 rw [qfH,if_pos]
 have:((ls.map fun c=>PySem.Str.mk c.toArray).map (·.length)).sum=ls.flatten.length:=by
  rw [List.length_flatten,waT]
  congr 1
 rw [this,qcq,was,Nat.mul_zero]
 exact h
theorem qlW (cs:List Nat):(cs.map fun c=>[c]).flatten=cs:=by induction cs <;> simp_all
theorem qg5 {cs:List Nat} (h:cs.length≤16777216):mJoin (.str "") [.lst (cs.map sg)]=some (tx cs):=by
 have:=qg4 (ls:=cs.map fun c=>[c]) (by rw [qlW]; exact h)
 rw [waT,qlW] at this
 exact this
@[simp] theorem qbY (l:List Nat):dItems (tx l)=some (l.map sg):=nr rfl
@[simp] theorem qdW (l:List D):dItems (.lst l)=some l:=nr rfl
@[simp] theorem qdX (l:List D):dItems (.tup l)=some l:=nr rfl
@[simp] theorem qeX (l:List D):dList [.lst l]=some l:=nr rfl
@[simp] theorem qeY (l:List D):dList [.tup l]=some l:=nr rfl
@[simp] theorem qfI (c:Nat) (l:List Nat):dIn (sg c) (tx l)=some (decide (c∈l)):=nr rfl
end TT
namespace TT
theorem LN1 {n:Nat}:(n≤LN)=(n≤16777216):=rfl
end TT
namespace TT
end TT
namespace TT
theorem qeZ {g:T} {e:E} {ρ:Ev} {n:Nat} (f:Nat→D) (m:Mem) (hn:n≤16777216) (h:∀ k < n,∃ ρ',g (.int (k:Nat)) ρ=some ρ'∧e ρ' m = .ok (f k) m):compL g tYes e ρ (dRange (n:Nat)) [] m = .ok ((List.range n).map f) m:=by
 have hd:dRange (n:Nat)=(List.range n).map fun k=>D.int (k:Nat):=by unfold dRange; rw [wbe]
 have:=qbq (g:=g) (e:=e) (ρ:=ρ) (fun d=>match d with | .int i=>f i.toNat | d=>d) (dRange (n:Nat)) [] m (fun d hdm=>by
  rw [hd] at hdm
  obtain ⟨k,hk,rfl⟩:=wae.mp hdm
  obtain ⟨ρ',h1,h2⟩:=h k (wbm.mp hk)
  exact ⟨ρ',h1,by rw [h2]; simp⟩) (by rw [qbj]; simpa using hn)
 rw [this,wax,hd,waT]
 congr 1
end TT
namespace TT
@[simp] theorem qe0 (a b:E) (ρ:Ev) (m:Mem):eCatM a b ρ m=(a ρ m).bind fun x m=>(b ρ m).bind fun y m=>match view m x,view m y with
 | .lst xs,.lst ys=>if xs.length+ys.length≤LN then mkL true (xs++ys) m else .bad
 | _,_=>.bad:=nr rfl
theorem qc9:∀ {xs:List D},(∀ x∈xs,eqvD x x=true)→eqvL xs xs=true
 | [],_=>rfl
 | x::xs,h=>by
  show (eqvD x x && eqvL xs xs)=true
  rw [h x (by simp),qc9 fun y hy=>h y (by simp [hy])]
  rfl
theorem qfJ (n:Nat):∀ (d:D),dataN n d=true→eqvD d d=true:=by
 induction n with
 | zero=>
  intro d h
  cases d with
  | non=>rfl
  | bl b=>show (b == b)=true; simp
  | int b=>show (b == b)=true; simp
  | str b=>show (b == b)=true; simp
  | _=>cases h
 | succ n ih=>
  intro d h
  cases d with
  | non=>rfl
  | bl b=>show (b == b)=true; simp
  | int b=>show (b == b)=true; simp
  | str b=>show (b == b)=true; simp
  | lst xs=>exact qc9 fun x hx=>ih x (wag.mp (show xs.all (dataN n)=true from h) x hx)
  | tup xs=>exact qc9 fun x hx=>ih x (wag.mp (show xs.all (dataN n)=true from h) x hx)
  | _=>cases h
theorem qaS {d:D} (h:isData d=true):dNe d d=some false:=by
 show (if isData d=true∧isData d=true then some (eqvD d d) else noDct d d).map (!·)=_
 rw [if_pos ⟨h,h⟩,qfJ 16 d h]
 rfl
theorem qfK {d:D} (h:isData d=true):dEq d d=some true:=by
 show (if isData d=true∧isData d=true then some (eqvD d d) else noDct d d)=_
 rw [if_pos ⟨h,h⟩,qfJ 16 d h]
theorem qbc {xs:List D} (h:∀ x∈xs,dataN 15 x=true):isData (.lst xs)=true:=wag.mpr h
theorem qbs {x:D} {T:String} (h:T∈["bool","int","str","list","tuple","dict"]):dIsInst [x,.ty T]=(tyIs T x).map D.bl:=if_pos h
theorem qir (xs:List D):dIsInst [.lst xs,.ty "list"]=some (.bl true):=qbs (by decide)
theorem qkp (s:PySem.Str):dIsInst [.str s,.ty "str"]=some (.bl true):=qbs (by decide)
@[simp] theorem qe1 (m:Mem) (n:String):view m (.ty n) = .ty n:=nr rfl
@[simp] theorem qg6 (xs:List D) (m:Mem):view (.lst xs::m) (.loc 0) = .lst xs:=nr rfl
@[simp] theorem qdY (m:Mem) (n:PySem.Str):view m (.cls n) = .cls n:=nr rfl
end TT
namespace TT
theorem qeo {α:Type} [DecidableEq α]:∀ {l l2:List α},l.Nodup→(∀ x∈l,x∈l2)→l.length≤l2.length
 | [],_,_,_=>waN _
 | x::l,l2,hn,hs=>by
  have hn:=wa2.mp hn
  have ih:=qeo (l:=l) (l2:=l2.erase x) hn.2 fun y hy=>(List.mem_erase_of_ne (fun e=>hn.1 (by rw [← e]; exact hy))).mpr (hs y (by simp [hy]))
  have h1:=List.length_erase_of_mem (hs x (by simp))
  have h2:0 < l2.length:=List.length_pos_of_mem (hs x (by simp))
  rw [wab]
  omega
end TT
namespace TT
@[simp] theorem qbK (c:Nat) (l:List Nat):dNotIn (sg c) (tx l)=some (!decide (c∈l)):=nr rfl
theorem qis {α β:Type} (f:α→β) (xs:List α) (lo hi:Option Int):cutD (xs.map f) lo hi=(cutD xs lo hi).map f:=by
 unfold cutD
 rw [waa,List.map_take,List.map_drop]
theorem qit {α:Type} (f:α→D) (xs:List α) (lo hi:Option Int):dCut lo hi (.lst (xs.map f))=some (.lst ((cutD xs lo hi).map f)):=by
 show some (D.lst (cutD (xs.map f) lo hi))=_
 rw [qis]
@[simp] theorem qnI (i:Nat) (f:E) (ρ:Ev) (m:Mem):eLend i f ρ m=match ρ[i]? with
 | some (some (.loc n))=>(match m[n]? with
  | some (.lst xs)=>if noLocs xs=true then (match f ((ρ.map hide).set i (some (.lst xs))) [] with
   | .ok d _=>if flatB d=true then .ok d m else .bad
   | _=>.bad) else .bad
  | _=>.bad)
 | _=>.bad:=nr rfl
@[simp] theorem qlX:hide none=none:=nr rfl
@[simp] theorem qnt (n:Nat):hide (some (.loc n))=none:=nr rfl
@[simp] theorem qnu (n:Nat) (f:F) (l:EL) (ρ:Ev) (m:Mem):eCallW n f l ρ m=(l ρ m).bind fun ds m=>if ds.length=n then f ds m else .bad:=nr rfl
end TT

set_option maxHeartbeats 2000000
namespace PySem
namespace HRev
open PySem PySem.Spec PySem.Builtin PyProof.Rows HT
section
variable {prog:Program} {w:World} {A:Around} {E:Value→Shared→Prop} {s:Shared}
theorem adjust_rev (n:Nat):Builtin.Slice.sliceAdjust none none (-1) (n:Int)=((n:Int) - 1,-1):=by
 unfold Builtin.Slice.sliceAdjust
 simp
theorem places_rev (n:Nat):Builtin.Slice.slicePlaces ((n:Int) - 1) (-1) (-1)=n:=by
 unfold Builtin.Slice.slicePlaces
 have h1:¬ ((-1:Int) > 0):=by omega
 simp only [h1,if_false]
 have e:(- -1:Int)=1:=by decide
 rw [e,Int.ediv_one]
 split <;> omega
theorem sliceApplied_rev {sl:Addr} {vs:Value} {n:Nat} {Q:Int × Int × Nat→Shared→Prop} {vl vu:Value} (hs:s.heap.IsSliceOf sl vl vu vs) (pl:IsPart vl none) (pu:IsPart vu none) (ps:IsPart vs (some (-1)))
  (h:Q ((n:Int) - 1,-1,n) s):wpAny (model prog w) A (Builtin.Slice.sliceApplied (.ref sl) (pure (n:Int))) Q E s:=by
 obtain ⟨os,hos,hcs,hds⟩:=id hs
 unfold Builtin.Slice.sliceApplied Builtin.Slice.sliceFields
 refine wpAny_bind (wpAny_bind (wpAny_field hos hds (x:=vl) rfl (wpAny_bind (wpAny_field hos hds (x:=vu) rfl (wpAny_bind (wpAny_field hos hds (x:=vs) rfl (wpAny_pure ?_)))))))
 refine wpAny_bind (slicePart_ ps ?_)
 show wpAny _ _ (if ((-1:Int) == 0)=true then _ else _) _ _ s
 rw [if_neg (by decide)]
 refine wpAny_bind (slicePart_ pl (wpAny_bind (slicePart_ pu (wpAny_bind (wpAny_pure ?_)))))
 show wpAny _ _ (match Builtin.Slice.sliceAdjust none none (-1) (n:Int) with | (lo,hi)=>pure (lo,(-1:Int),Builtin.Slice.slicePlaces lo hi (-1))) _ _ s
 rw [adjust_rev n]
 show wpAny _ _ (pure ((n:Int) - 1,(-1:Int),Builtin.Slice.slicePlaces ((n:Int) - 1) (-1) (-1))) _ _ s
 rw [places_rev]
 exact wpAny_pure h
theorem fm_congr {α β:Type} {f g:α→Option β}:∀ {l:List α},(∀ x∈l,f x=g x)→l.filterMap f=l.filterMap g
 | [],_=>rfl
 | x::l,h=>by rw [List.filterMap_cons,List.filterMap_cons,h x (by simp),fm_congr fun y hy=>h y (by simp [hy])]
theorem pick_rev (xs:Array Value):((List.range xs.size).filterMap fun (m:Nat)=>xs[((xs.size:Int) - 1+(m:Int) * (-1)).toNat]?).toArray=xs.toList.reverse.toArray:=by
 have e:(List.range xs.size).filterMap (fun (m:Nat)=>xs[((xs.size:Int) - 1+(m:Int) * (-1)).toNat]?)=((List.range xs.size).map fun k=>xs.size - 1 - k).filterMap (xs[·]?):=by
  rw [List.filterMap_map]
  refine fm_congr fun m hm=>?_
  have:=wbm.mp hm
  have e2:((xs.size:Int) - 1+(m:Int) * (-1)).toNat=xs.size - 1 - m:=by omega
  show xs[((xs.size:Int) - 1+(m:Int) * (-1)).toNat]? = xs[xs.size - 1 - m]?
  rw [e2]
 rw [e,PySem.W.krv_range,List.filterMap_reverse,PySem.W.krv_all]
theorem getItem_tuple_rev {t sl:Addr} {items:Array Value} {vl vu vs:Value} {Q:Value→Shared→Prop} (ht:IsTup s.heap t items) (hs:s.heap.IsSliceOf sl vl vu vs) (pl:IsPart vl none) (pu:IsPart vu none) (ps:IsPart vs (some (-1)))
  (h:Q (.ref s.heap.objs.size) { s with heap:=s.heap.push { cls:=.type "tuple",data:=.seq items.toList.reverse.toArray } })
  (hsz:items.size≤sizeLine):wpAny (model prog w) A (getItem (.ref t) (.ref sl)) Q E s:=by
 have htake:sizeOk (.seq items.toList.reverse.toArray):=by
  show items.toList.reverse.toArray.size≤sizeLine
  rw [waW,waO,wap]
  exact hsz
 obtain ⟨os,hos,hcs,hds⟩:=id hs
 have hTs:s.TypeIs (.ref sl) "slice":=⟨os,hos,hcs⟩
 unfold getItem
 try with_reducible refine wpAny_holding ?_
 first | refine wpAny_bind (wpAny_pure ?_) | skip
 refine wpAny_bind (wpAny_sequenceKey ht.typeIs (by decide) ?_)
 refine wpAny_bind (wpAny_callSpecial?_slot (name:=Str.ofString "__getitem__") ht.typeIs PyProof.Rows.slot_tuple_getitem
  (wpAny_call_entry PyProof.Rows.slot_tuple_getitem ht.typeIs entry_tuple_getitem ?_ (args_tuple_getitem _ _)))
 show wpAny _ _ (Builtin.Tuple.tupleItemsOf (.ref t) >>= _) _ _ s
 refine wpAny_bind (tupleItemsOf_ ht ?_)
 refine wpAny_bind (wpAny_typeOf hTs ?_)
 rw [if_pos (by decide)]
 refine wpAny_bind (sliceApplied_rev hs pl pu ps ?_)
 show wpAny _ _ (if ((((items.size:Int) - 1) == 0 && (-1:Int) == 1 && items.size == items.size)=true) then _ else _) _ _ s
 rw [if_neg (by simp),pick_rev]
 first
  | exact wpAny_bind (m:=Builtin.Tuple.tupleExact _) (wpAny_newObj_type (wpAny_pure ⟨_,rfl,wpAny_pure h⟩) htake)
  | exact wpAny_bind (m:=Builtin.Tuple.tupleExact _) (wpAny_newObj_type (wpAny_bind (wpAny_pure (wpAny_pure ⟨_,rfl,wpAny_pure h⟩))) htake)
end
end HRev
end PySem

namespace L2
open PySem PySem.Spec PyProof.Rows
def revS (s:Str):Str:=⟨s.cps.toList.reverse.toArray⟩
def tRevD (K:PySem.W.Frag) (te:TE):TE:=fun σ H Q=>te σ H fun x H1=>(∃ a xs,x = .ref a∧SqL K H1 a xs∧∀ p,H1 p=none→Q (.ref p) (upd H1 p (.lst xs.reverse)))
 ∨ (∃ a xs,x = .ref a∧SqT K H1 a xs∧∀ p,H1 p=none→Q (.ref p) (upd H1 p (.tup xs.reverse)))∨∃ z,x = .str z∧z.length≤sizeLine∧Q (.str (revS z)) H1
theorem sliceBy_rev (x:Str) (u:Tok):PySem.Txt.sliceBy x none none (-1,u)=revS x:=by
 have h:=step_rev_list x u
 generalize PySem.Txt.sliceBy x none none (-1,u)=y at h
 obtain ⟨l⟩:=y
 unfold revS
 congr 1
 apply wbn.mp
 rw [h,List.toList_toArray]
 apply List.ext_getElem
 ·simp [Str.length]
 ·intro i h1 h2
  have h3:i < x.cps.size:=by simpa [Str.length] using h1
  rw [List.getElem_map,List.getElem_reverse,List.getElem_range]
  simp only [Str.length,wap,Array.getElem_toList]
  rw [Array.getD_eq_getD_getElem?,Array.getElem?_eq_getElem (by omega)]
  rfl
variable {X:Cx}
theorem pe_revD {e:Expr} {te:TE} {k:Nat} {p1 p2 p3 pos:Pos} (he:PE X e te):PE X (.Subscript e (.Slice none none (some (.UnaryOp .USub (.Constant (.int 1) k p1) p2)) p3) pos) (tRevD X.K te):=by
 refine ⟨fun pins s σ H Q I h=>?_⟩
 refine Subscript_ (thn (he.run pins s σ H _ I h) fun v s1 ⟨x,H1,I1,r1,q1⟩=>?_)
 have hst:PO X (some (.UnaryOp .USub (.Constant (.int 1) k p1) p2)) (tPart (tUn (rU fun i=>.int (-i)) (tC (.int 1)))):=po_some (pe_un un_neg pe_int)
 refine wpAny_Slice (thn (po_none.run pins s1 σ H1 (fun o H2=>o=none∧H2=H1) I1 ⟨rfl,rfl⟩) fun vl s2 ⟨l,H2,I2,pl,el,e2⟩=>?_)
 subst el e2
 refine thn (po_none.run pins s2 σ H2 (fun o H3=>o=none∧H3=H2) I2 ⟨rfl,rfl⟩) fun vu s3 ⟨u,H3,I3,pu,eu,e3⟩=>?_
 subst eu e3
 refine thn (hst.run pins s3 σ H3 (fun o H4=>o=some (-1)∧H4=H3) I3 ⟨1,rfl,-1,rfl,rfl,rfl⟩) fun vs s4 ⟨o,H4,I4,ps,eo,e4⟩=>?_
 subst eo e4
 have I5:Inv X pins σ H4 { s4 with heap:=s4.heap.push { cls:=.type "slice",data:=.fields #[vl,vu,vs] } }:=I4.kept (t':=s4.toks) fun b ob q=>Heap.get?_push_of_some _ q
 rcases q1 with ⟨a,xs,ex,hx,q⟩ | ⟨a,xs,ex,hx,q⟩ | ⟨z,ex,hz,q⟩
 ·subst ex
  cases r1
  obtain ⟨its,r,ht,hz⟩:=I5.list hx
  have hlen:=r.length
  show wpAny (model X.prog X.w) X.A (subscriptTail e (.Slice none none (some (.UnaryOp .USub (.Constant (.int 1) k p1) p2)) p3) (.ref a) (.ref s4.heap.objs.size)) (EP X pins σ Q) X.xe { s4 with heap:=s4.heap.push { cls:=.type "slice",data:=.fields #[vl,vu,vs] } }
  refine tail_any (ops:=[.ref a,.ref s4.heap.objs.size]) ht.isList.typeIs (PySem.slot_list_getitem.lookup) ?_ (by with_unfolding_all rfl)
  refine wpAny_getItem_list_slice ht.isList (Heap.IsSliceOf.new _ vl vu vs) pl pu ps (by decide) ?_ (by rw [waW]; omega)
  rw [PySem.W.krv_pick]
  refine ⟨.ref _,_,I5.laid (t':=s4.toks) (o:=.lst xs.reverse) (fun b ob q=>Heap.get?_push_of_some _ q) (waL _) ?_,rfl,q _ (I5.hok.fresh (waL _))⟩
  exact ⟨by rw [waO]; exact hz,_,0,r.reverse,Heap.get?_push_size _ rfl⟩
 ·subst ex
  cases r1
  obtain ⟨its,r,ht,hz⟩:=I5.tuple hx
  have hlen:=r.length
  show wpAny (model X.prog X.w) X.A (subscriptTail e (.Slice none none (some (.UnaryOp .USub (.Constant (.int 1) k p1) p2)) p3) (.ref a) (.ref s4.heap.objs.size)) (EP X pins σ Q) X.xe { s4 with heap:=s4.heap.push { cls:=.type "slice",data:=.fields #[vl,vu,vs] } }
  refine tail_any (ops:=[.ref a,.ref s4.heap.objs.size]) ht.typeIs (PyProof.Rows.slot_tuple_getitem.lookup) ?_ (by with_unfolding_all rfl)
  refine PySem.HRev.getItem_tuple_rev ht (Heap.IsSliceOf.new _ vl vu vs) pl pu ps ?_ (by rw [waW]; omega)
  refine ⟨.ref _,_,I5.laid (t':=s4.toks) (o:=.tup xs.reverse) (fun b ob q=>Heap.get?_push_of_some _ q) (waL _) ?_,rfl,q _ (I5.hok.fresh (waL _))⟩
  exact ⟨by rw [waO]; exact hz,_,r.reverse,IsTup.new _ _⟩
 ·subst ex
  obtain ⟨t,rfl⟩:=r1
  cases pl
  cases pu
  cases ps with
  | int _ ot=>
  show wpAny (model X.prog X.w) X.A (subscriptTail e (.Slice none none (some (.UnaryOp .USub (.Constant (.int 1) k p1) p2)) p3) (.str z t) (.ref s4.heap.objs.size)) (EP X pins σ Q) X.xe { s4 with heap:=s4.heap.push { cls:=.type "slice",data:=.fields #[.none,.none,.int (-1) ot] } }
  refine tail_any (ops:=[.str z t,.ref s4.heap.objs.size]) (typeIs_str _ _ _) F.slot_str_getitem.lookup ?_ (by with_unfolding_all rfl)
  refine wpAny_getItem_str_slice (l:=none) (u:=none) (st:=some (-1,ot)) ⟨_,Heap.get?_push_size _ rfl,rfl,rfl⟩ rfl ?_
  have hy:=sliceBy_rev z ot
  unfold PySem.Txt.sliceBy at hy
  show Made.post (sliceMade z t none none (some (-1,ot))) (EP X pins σ Q) _
  unfold sliceMade
  rw [if_neg (by simp)] at hy ⊢
  rw [hy]
  refine ⟨?_,.str _,_,I5.tok _,⟨_,rfl⟩,q⟩
  show (List.toArray _).size≤_
  rw [waW,waO,wap]
  exact hz
end L2

namespace TT
open PySem PySem.Spec PyProof.Rows L2
variable [TabI]
section
variable {X:Cx} {c:Ct} {G:Hp} {μ:List Addr} {ρ:Ev} {m:Mem} {σ:L2.St} {H:Hp}
theorem qkq {s:Str} (h:okS s=true):okS (revS s)=true:=by
 rw [qii] at h ⊢
 show (List.toArray _).toList.all _=true
 rw [List.toList_toArray,List.all_reverse]
 exact h
theorem qlY {e:Expr} {fa:E} {kk:Nat} {p1 p2 p3 pos:Pos} {k:Nat} (F:Fit X c k) (he:PE X e (rE c fa)):PE X (.Subscript e (.Slice none none (some (.UnaryOp .USub (.Constant (.int 1) kk p1) p2)) p3) pos) (rE c (eUn dRev fa)):=by
 refine (pe_revD he).imp ?_
 rintro σ H Q ⟨ρ,m,G,μ,S,h⟩
 refine qaq S h fun x m1 u H1 G1 μ1 S1 R1 g1 h1=>?_
 obtain ⟨d,e,h1⟩:=PostE.of h1
 rw [← F.K]
 generalize e1:view m1 x=x' at e
 cases x' with
 | lst xs=>
  cases e
  obtain ⟨a,vs,ea,ha,ra⟩:=qbm S1.mem R1 e1
  refine .inl ⟨a,vs,ea,ha,fun p hp=>?_⟩
  obtain ⟨S2,g2⟩:=S1.alloc hp (.lst vs.reverse)
  exact h1 _ _ _ _ S2 (.lst (SqL.of upd_same) (ra.reverse.gr g2)) g2
 | tup xs=>
  cases e
  obtain ⟨a,vs,ea,ha,ra⟩:=qbT S1.mem R1 e1
  refine .inr (.inl ⟨a,vs,ea,ha,fun p hp=>?_⟩)
  obtain ⟨S2,g2⟩:=S1.alloc hp (.tup vs.reverse)
  exact h1 _ _ _ _ S2 (.tup upd_same (ra.reverse.gr g2)) g2
 | str s=>
  have e:(if s.length≤LN then some (D.str (revS s)) else none)=some d:=e
  split at e
  ·rename_i hl
   cases e
   obtain ⟨ea,ho⟩:=qbE R1 e1
   exact .inr (.inr ⟨s,ea,by rw [sizeLine_eq]; exact hl,h1 _ _ _ _ S1 (.str _ (qkq ho)) Gr.refl⟩)
  ·cases e
 | _=>cases e
end
end TT

set_option maxHeartbeats 2000000
namespace ZG
open PySem PySem.Spec PyProof.Rows L2 RT
section
variable {prog:Program} {w:World} {A:Around} {E:Value→Shared→Prop} {s:Shared}
end
end ZG
namespace ZG
open PySem PySem.Spec PyProof.Rows L2
inductive ZK where
 | l (a:Addr) | t (a:Addr) | s (z:Str) (tk:Tok) | r (a:Addr) (n:Nat)
def ZK.v:ZK→Value
 | .l a=>.ref a
 | .t a=>.ref a
 | .s z tk=>.str z tk
 | .r a _=>.ref a
def ZK.o:ZK→Obj
 | .l a=>{ cls:=.type "list_iterator",data:=.fields #[.ref a,.int 0 0] }
 | .t a=>{ cls:=.type "tuple_iterator",data:=.fields #[.ref a,.int 0 0] }
 | .s z tk=>{ cls:=.type (strIterType z),data:=.fields #[.str z tk,.int 0 0] }
 | .r a n=>RT.rtObj a ((n:Int) - 1)
def ZK.N (k:ZK) (K:PySem.W.Frag) (H:Hp) (xs:List V):Prop:=match k with
 | .l a=>SqL K H a xs
 | .t a=>SqT K H a xs
 | .s z _=>xs=z.cps.toList.map fun c=>V.str ⟨#[c]⟩
 | .r a n=>∃ ys,SqT K H a ys∧ys.length=n∧xs=ys.reverse
def ZK.It (k:ZK) (it:Addr) (i:Nat) (h:Heap):Prop:=match k with
 | .l a=>h.IsListIter it a i
 | .t a=>h.IsTupleIter it a i
 | .s z tk=>h.IsStrIter it (strIterType z) z tk i
 | .r a n=>i≤n∧RT.IsRt h it a ((n:Int) - 1 - (i:Nat))
def ZK.src:ZK→List Addr
 | .l a=>[a]
 | .t a=>[a]
 | .s _ _=>[]
 | .r a _=>[a]
theorem ZK.It.at {k:ZK} {it:Addr} {i:Nat} {h h' : Heap} (x:k.It it i h) (e:∀ o,h.get? it=some o→h'.get? it=some o):k.It it i h':=by
 cases k with
 | l a=>exact Heap.IsListIter.at x e
 | t a=>exact Heap.IsTupleIter.at x e
 | s z tk=>
  obtain ⟨o,ho,r⟩:=x
  exact ⟨o,e o ho,r⟩
 | r a n=>exact ⟨x.1,x.2.at e⟩
theorem ZK.It.obj {k:ZK} {it:Addr} {i:Nat} {h:Heap} (x:k.It it i h):∃ o,h.get? it=some o∧∀ v,o.data≠.cell v:=by
 cases k with
 | l a=>
  obtain ⟨o,ho,_,d⟩:=x
  exact ⟨o,ho,fun v q=>by rw [d] at q; cases q⟩
 | t a=>
  obtain ⟨o,ho,_,d⟩:=x
  exact ⟨o,ho,fun v q=>by rw [d] at q; cases q⟩
 | s z tk=>
  obtain ⟨o,ho,_,d⟩:=x
  exact ⟨o,ho,fun v q=>by rw [d] at q; cases q⟩
 | r a n=>
  obtain ⟨_,o,ho,_,d⟩:=x
  exact ⟨o,ho,fun v q=>by rw [d] at q; cases q⟩
theorem ZK.start {k:ZK} {it:Addr} {h:Heap} (e:h.get? it=some k.o):k.It it 0 h:=by
 cases k with
 | l a=>exact ⟨_,e,rfl,rfl⟩
 | t a=>exact ⟨_,e,rfl,rfl⟩
 | s z tk=>exact ⟨_,e,rfl,rfl⟩
 | r a n=>
  have z:(n:Int) - 1 - ((0:Nat):Int)=(n:Int) - 1:=by omega
  refine ⟨waN _,?_⟩
  rw [z]
  exact ⟨_,e,rfl,rfl⟩
section
variable {X:Cx} {pins:List (Addr × Obj)} {σ:L2.St} {H:Hp} {s:Shared}
theorem ZK.inj {k:ZK} {xs ys:List V} (I:Inv X pins σ H s) (h:k.N X.K H xs) (h' : k.N X.K H ys):xs=ys:=by
 cases k with
 | l a=>exact I.list_inj h h'
 | t a=>exact I.tuple_inj h h'
 | s z tk=>exact Eq.trans h (Eq.symm h')
 | r a n=>
  obtain ⟨us,q1,_,rfl⟩:=h
  obtain ⟨vs,q2,_,rfl⟩:=h'
  rw [I.tuple_inj q1 q2]
end
structure Sep (z TI TO i1 i2:Addr) (k1 k2:ZK):Prop where
 TIz:TI≠z
 TOz:TO≠z
 TITO:TI≠TO
 TIi1:TI≠i1
 TIi2:TI≠i2
 zi1:z≠i1
 zi2:z≠i2
 TOi1:TO≠i1
 TOi2:TO≠i2
 i12:i1≠i2
 s1:∀ b∈k1.src,b≠z∧b≠TO∧b≠i1∧b≠i2
 s2:∀ b∈k2.src,b≠z∧b≠TO∧b≠i1∧b≠i2
inductive Sh where
 | l | t | s
def ZKV:ZK→Sh→V→Prop
 | .l a,.l,v=>v = .ref a
 | .t a,.t,v=>v = .ref a
 | .s z _,.s,v=>v = .str z
 | _,_,_=>False
inductive Src (K:PySem.W.Frag) (H:Hp):Sh→V→List V→Prop
 | l {a:Addr} {xs:List V}:SqL K H a xs→Src K H .l (.ref a) xs
 | t {a:Addr} {xs:List V}:SqT K H a xs→Src K H .t (.ref a) xs
 | s (z:Str):Src K H .s (.str z) (z.cps.toList.map fun c=>V.str ⟨#[c]⟩)
theorem Src.kind {X:Cx} {pins:List (Addr × Obj)} {σ:L2.St} {H:Hp} {s:Shared} {sh:Sh} {v:V} {u:Value} {xs:List V} (I:Inv X pins σ H s) (q:Src X.K H sh v xs) (r:RelV v u) :
  ∃ k:ZK,u=k.v∧ZKV k sh v∧(∀ b∈k.src,b < s.heap.objs.size)∧∃ G,Begins k.v k.o G∧G s.heap:=by
 cases q with
 | l h=>
  rename_i a
  cases r
  obtain ⟨its,_,p,_⟩:=I.list h
  exact ⟨.l a,rfl,rfl,fun b hb=>by
    obtain rfl:b=a:=by simpa [ZK.src] using hb
    exact p.lt,_,begins_list a its.toArray,p.isList⟩
 | t h=>
  rename_i a
  cases r
  obtain ⟨its,_,p,_⟩:=I.tuple h
  exact ⟨.t a,rfl,rfl,fun b hb=>by
    obtain rfl:b=a:=by simpa [ZK.src] using hb
    obtain ⟨o,ho,_⟩:=p
    exact Heap.lt_size ho,_,begins_tuple a its.toArray,p⟩
 | s z=>
  obtain ⟨t,rfl⟩:=r
  exact ⟨.s z t,rfl,rfl,fun b hb=>by simp [ZK.src] at hb,_,begins_text z t,trivial⟩
end ZG
namespace TT
open PySem PySem.Spec PyProof.Rows L2
variable [TabI]
section
variable {X:Cx} {c:Ct} {G:Hp} {μ:List Addr} {ρ:Ev} {m:Mem} {σ:L2.St} {H:Hp}
end
end TT

set_option maxHeartbeats 2000000
namespace L2
open PySem PySem.Spec PyProof.Rows
section
variable {X:Cx} {x n:Str} {c:Value} {i:Nat} {body suite els:List Stmt} {b₀:Stmt} {np pos pos' : Pos} {tb:WX→TS} {u:TS} {ts:Addr→Value→Option Addr→TS} {Wout:WX}
end
end L2
namespace TT
open PySem PySem.Spec PyProof.Rows L2
variable [TabI]
structure XC (K:PySem.W.Frag) (mg:Str→Option Value) (c:Str) (C:Addr):Prop where
 g:mg c=some (.ref C)
 q:PySem.W.excIn K C [.type "ValueError",.type "Exception",.type "BaseException",.type "object"] "ValueError.__new__" = true
 k:PySem.W.keepIn K (.ref C)=true
 t:PySem.W.typeIn K (.ref C)=some (.type "type")
 e:ExcC K C
structure XG (K:PySem.W.Frag) (mg:Str→Option Value) (c:Str) (C:Addr):Prop where
 g:mg c=some (.ref C)
 e:ExcC K C
theorem XC.toG {K:PySem.W.Frag} {mg:Str→Option Value} {c:Str} {C:Addr} (h:XC K mg c C):XG K mg c C:=⟨h.g,h.e⟩
structure XP (K:PySem.W.Frag) (mg:Str→Option Value) (c d:Str) (b:Bool) (C:Addr) (v:Value):Prop where
 g:mg c=some (.ref C)
 n:(mg d=some v∧d≠("ValueError" : Str))∨(d=("ValueError" : Str)∧mg d=none∧v = .type "ValueError")
 k:PySem.W.kitCls K (.ref C) v=some b
 s:PySem.W.subIn K v (.type "BaseException")=some true
 r:(Value.ref C == v)=true→b=true
def XTok (K:PySem.W.Frag) (mg:Str→Option Value) (t:XTab):Prop:=∀ p∈t,(∃ C v,XP K mg p.1.1 p.1.2 p.2 C v)∧∃ C,XG K mg p.1.1 C
theorem qbd {α β:Type} [BEq α] [LawfulBEq α] {x:α} {y:β}:∀ {l:List (α × β)},l.lookup x=some y→(x,y)∈l
 | [],h=>by simp at h
 | (a,b)::l,h=>by
  rw [wa7] at h
  split at h
  ·rename_i e
   cases h
   rw [eq_of_beq e]
   exact waw
  ·exact waJ _ (qbd h)
section
variable {X:Cx} {c:Ct} {G:Hp} {μ:List Addr} {ρ:Ev} {m:Mem} {σ:L2.St} {H:Hp}
theorem qa6 {x ms:Str} {j k:Nat} {p p2 pos pos2:Pos} {C:Addr} (F:Fit X c k) (Y:XC X.K X.mg x C) (hg:Gl X x) (hdb:(x == ("__debug__" : Str))=false:=by decide) :
  PS X (.Raise (some (.Call (.Name x p) [.Constant (.str ms) j p2] [] pos)) none pos2) (rS c (sRaise x)):=by
 refine PS.imp (ps_raise F.calm F.tk (SkE.pmk_own1 PySem.F.excBase_ValueError Y.q Y.g Y.k (raises_own Y.e.hs Y.t) hg pe_str (by rfl) hdb)) ?_
 rintro D σ H ⟨ρ,m,G,μ,S,h⟩
 exact h _ _ _ _ _ _ S Gr.refl ⟨C,F.mg ▸ Y.g,rfl,.inl ⟨rfl,rfl⟩⟩
structure Caught (X:Cx) (c:Ct) (a:Addr) (oe:Obj) (pn:List (Addr × Obj)) (D:Addr) (dd:Option Addr):Prop where
 z:Zc (.ref D) dd oe
 f:∃ vs,oe.data = .fields vs
 e:ExcC X.K D
 x:c.xo=some (a,.ref D,dd)
mutual
theorem Rep.noX {K:PySem.W.Frag} {mg:Str→Option Value} {xo xo' : XO} {G:Hp} {μ:List Addr}:∀ {d:D} {v:V},TT.noX d=true→Rep K mg xo G μ d v→Rep K mg xo' G μ d v
 | _,_,_,.non=>.non
 | _,_,_,.bl b=>.bl b
 | _,_,_,.int i=>.int i
 | _,_,_,.str x h=>.str x h
 | _,_,_,.ty n=>.ty n
 | _,_,_,.cls h=>.cls h
 | _,_,n,.lst h t=>.lst h (RepL.noX (by simpa [TT.noX] using n) t)
 | _,_,n,.tup h t=>.tup h (RepL.noX (by simpa [TT.noX] using n) t)
 | _,_,n,.dct h t=>.dct h (RepP.noX (by simpa [TT.noX] using n) t)
 | _,_,n,.obj h1 h2 h3 t=>.obj h1 h2 h3 (RepF.noX (by simpa [TT.noX] using n) t)
 | _,_,n,.exc h1 h2=>by simp [TT.noX] at n
 | _,_,_,.loc h=>.loc h
theorem RepL.noX {K:PySem.W.Frag} {mg:Str→Option Value} {xo xo' : XO} {G:Hp} {μ:List Addr}:∀ {d:List D} {v:List V},TT.noXs d=true→RepL K mg xo G μ d v→RepL K mg xo' G μ d v
 | _,_,_,.nil=>.nil
 | _,_,n,.cons h t=>by
  simp only [TT.noXs,wac] at n
  exact .cons (Rep.noX n.1 h) (RepL.noX n.2 t)
theorem RepP.noX {K:PySem.W.Frag} {mg:Str→Option Value} {xo xo' : XO} {G:Hp} {μ:List Addr}:∀ {d:List (D × D)} {v:List (Key × V)},TT.noXP d=true→RepP K mg xo G μ d v→RepP K mg xo' G μ d v
 | _,_,_,.nil=>.nil
 | _,_,n,.int h t=>by
  simp only [TT.noXP,wac] at n
  exact .int (Rep.noX n.1.2 h) (RepP.noX n.2 t)
 | _,_,n,.str o h t=>by
  simp only [TT.noXP,wac] at n
  exact .str o (Rep.noX n.1.2 h) (RepP.noX n.2 t)
theorem RepF.noX {K:PySem.W.Frag} {mg:Str→Option Value} {xo xo' : XO} {G:Hp} {μ:List Addr}:∀ {d:List (Str × D)} {v:List (Str × V)},TT.noXF d=true→RepF K mg xo G μ d v→RepF K mg xo' G μ d v
 | _,_,_,.nil=>.nil
 | _,_,n,.cons h t=>by
  simp only [TT.noXF,wac] at n
  exact .cons (Rep.noX n.1 h) (RepF.noX n.2 t)
end
theorem RepT.noX {K:PySem.W.Frag} {mg:Str→Option Value} {xo xo' : XO} {G:Hp} {μ:List Addr}:∀ {d:List (D × D)} {v:List (List Key × V)},TT.noXP d=true→RepT K mg xo G μ d v→RepT K mg xo' G μ d v
 | _,_,_,.nil=>.nil
 | _,_,n,.cons h r t=>by
  simp only [TT.noXP,wac] at n
  exact .cons h (Rep.noX n.1.2 r) (RepT.noX n.2 t)
theorem RepN.noX {K:PySem.W.Frag} {mg:Str→Option Value} {xo xo' : XO} {G:Hp} {μ:List Addr}:∀ {d:List (D × D)} {v:List (NestedKey × Addr × Value)},TT.noXP d=true→RepN K mg xo G μ d v→RepN K mg xo' G μ d v
 | _,_,_,.nil=>.nil
 | _,_,n,.cons h q r l t=>by
  simp only [TT.noXP,wac] at n
  exact .cons h (Rep.noX n.1.1 q) (Rep.noX n.1.2 r) l (RepN.noX n.2 t)
abbrev Ct.sx (c:Ct) (x:XO) (W:WX):Ct:={ c with xo:=x,W:=W }
theorem MemOk.unX {x:XO} {W:WX} (h:MemOk (c.sx x W) G μ m H):MemOk c G μ (unM m) H:=by
 refine ⟨h.gh,h.bh,h.g0,h.gb,by rw [h.ml]; unfold unM; simp,h.nd,fun n a k e1 e2=>?_,h.used,h.mb,h.tb⟩
 unfold unM at e2
 rw [wal] at e2
 obtain ⟨k0,e3,rfl⟩:=wad.mp e2
 have q:=h.cell n a k0 e1 e3
 cases k0 with
 | dead=>trivial
 | fn k=>trivial
 | lst xs=>
  show CellOk c G μ H a (if noXs xs=true then .lst xs else .dead)
  by_cases hn:noXs xs=true
  ·rw [if_pos hn]
   obtain ⟨h1,h2,vs,h3,h4⟩:=q
   exact ⟨h1,h2,vs,h3,h4.noX hn⟩
  ·rw [if_neg hn]; trivial
 | dct ps=>
  show CellOk c G μ H a (if noXP ps=true then .dct ps else .dead)
  by_cases hn:noXP ps=true
  ·rw [if_pos hn]
   obtain ⟨h1,h2,vs,h3,h4⟩:=q
   exact ⟨h1,h2,vs,h3,h4.noX hn⟩
  ·rw [if_neg hn]; trivial
 | dcT ps=>
  show CellOk c G μ H a (if noXP ps=true then .dcT ps else .dead)
  by_cases hn:noXP ps=true
  ·rw [if_pos hn]
   obtain ⟨h1,h2,vs,h3,h4⟩:=q
   exact ⟨h1,h2,vs,h3,h4.noX hn⟩
  ·rw [if_neg hn]; trivial
 | dcF ps=>
  show CellOk c G μ H a (if noXP ps=true then .dcF ps else .dead)
  by_cases hn:noXP ps=true
  ·rw [if_pos hn]
   obtain ⟨xs,ep,h3,h4⟩:=q
   exact ⟨xs,ep,h3,h4.noX hn⟩
  ·rw [if_neg hn]; trivial
 | dcN ps=>
  show CellOk c G μ H a (if noXP ps=true then .dcN ps else .dead)
  by_cases hn:noXP ps=true
  ·rw [if_pos hn]
   obtain ⟨h1,h2,vs,h3,h4⟩:=q
   exact ⟨h1,h2,vs,h3,h4.noX hn⟩
  ·rw [if_neg hn]; trivial
 | obj n fs=>
  show CellOk c G μ H a (if noXF fs=true then .obj n fs else .dead)
  by_cases hn:noXF fs=true
  ·rw [if_pos hn]
   obtain ⟨h1,h2,C,dx,fv,e,h3,h4,h5,h6,h7⟩:=q
   exact ⟨h1,h2,C,dx,fv,e,h3,h4,h5,h6,h7.noX hn⟩
  ·rw [if_neg hn]; trivial
theorem Sim.unX {x:XO} {W:WX} (h:Sim (c.sx x W) G μ ρ m σ H):Sim c G μ (TT.unX ρ) (unM m) σ H:=by
 refine ⟨h.mem.unX,fun j d e=>?_,by unfold TT.unX; simp [h.len]⟩
 unfold TT.unX at e
 rw [wal] at e
 obtain ⟨o,e1,e2⟩:=wad.mp e
 cases o with
 | none=>cases e2
 | some d0=>
  have e2:(if noX d0=true then some d0 else none)=some d:=e2
  by_cases hn:noX d0=true
  ·rw [if_pos hn] at e2
   cases e2
   obtain ⟨v,hv,r⟩:=h.env j d e1
   exact ⟨v,hv,r.noX hn⟩
  ·rw [if_neg hn] at e2
   cases e2
theorem Sim.sx {x:XO} {W:WX} (hx:c.xo=none) (h:Sim c G μ ρ m σ H):Sim (c.sx x W) G μ ρ m σ H:=by
 refine ⟨⟨h.mem.gh,h.mem.bh,h.mem.g0,h.mem.gb,h.mem.ml,h.mem.nd,fun n a k e1 e2=>?_,h.mem.used,h.mem.mb,h.mem.tb⟩,fun j d e=>?_,h.len⟩
 ·have q:=h.mem.cell n a k e1 e2
  cases k with
  | dead=>trivial
  | fn k=>
   obtain ⟨_,_,_,_,z,_⟩:=q
   rw [hx] at z
   cases z
  | lst xs=>
   obtain ⟨h1,h2,vs,h3,h4⟩:=q
   exact ⟨h1,h2,vs,h3,RepL.mono (Same.refl _) (wai _) (.inl hx) h4⟩
  | dct ps=>
   obtain ⟨h1,h2,vs,h3,h4⟩:=q
   exact ⟨h1,h2,vs,h3,RepP.mono (Same.refl _) (wai _) (.inl hx) h4⟩
  | dcT ps=>
   obtain ⟨h1,h2,vs,h3,h4⟩:=q
   exact ⟨h1,h2,vs,h3,RepT.mono (Same.refl _) (wai _) (.inl hx) h4⟩
  | dcN ps=>
   obtain ⟨h1,h2,vs,h3,h4⟩:=q
   exact ⟨h1,h2,vs,h3,RepN.mono (Same.refl _) (wai _) (.inl hx) h4⟩
  | dcF ps=>
   obtain ⟨xs,ep,h3,h4⟩:=q
   exact ⟨xs,ep,h3,RepN.mono (Same.refl _) (wai _) (.inl hx) h4⟩
  | obj n fs=>
   obtain ⟨h1,h2,C,dx,fv,e,h3,h4,h5,h6,h7⟩:=q
   exact ⟨h1,h2,C,dx,fv,e,h3,h4,h5,h6,RepF.mono (Same.refl _) (wai _) (.inl hx) h7⟩
 ·obtain ⟨v,hv,r⟩:=h.env j d e
  exact ⟨v,hv,Rep.mono (Same.refl _) (wai _) (.inl hx) r⟩
theorem Sim.clear {i:Nat} (h:Sim c G μ ρ m σ H):Sim c G μ (ρ.set i none) m (σ.set i none) H:=by
 refine ⟨h.mem,fun j d e=>?_,by simp [h.len]⟩
 by_cases hj:i=j
 ·subst hj
  by_cases hl:i < ρ.length
  ·rw [waz hl] at e; cases e
  ·rw [war (by simpa using hl)] at e; cases e
 ·rw [waF hj] at e ⊢
  exact h.env j d e
def tsX (c:Ct) (su:S):Addr→Value→Option Addr→TS:=fun a cls d D σ H=>(∃ C,cls = .ref C∧ExcC c.K C)∧rS (c.sx (some (a,cls,d)) fun _ _ _ _=>False) su D σ H
theorem XP.exm {x d:Str} {b:Bool} {C:Addr} {v:Value} {K:PySem.W.Frag} {mg:Str→Option Value} (P:XP K mg x d b C v):PySem.W.exmOne K (.ref C) v=some b:=by
 unfold PySem.W.exmOne
 rw [P.s,P.k]
 rfl
theorem XP.kit {x d:Str} {b:Bool} {C:Addr} {v:Value} {K:PySem.W.Frag} {mg:Str→Option Value} (P:XP K mg x d b C v):PySem.W.kitOne K (.ref C) v=some b:=by
 unfold PySem.W.kitOne
 split
 ·rename_i h
  rw [P.r h]
 ·exact P.k
theorem PostS.sxEnd0 {D:Ends} {x:XO} {o:O} (h:PostS c G μ D (endX none o)):PostS (c.sx x fun _ _ _ _=>False) G μ D o:=by
 cases o with
 | nx ρ m=>exact fun σ H G' μ' S g=>h _ _ _ _ S.unX g
 | bk ρ m=>exact fun σ H G' μ' S g=>h _ _ _ _ S.unX g
 | ct ρ m=>exact fun σ H G' μ' S g=>h _ _ _ _ S.unX g
 | rt d m=>
  intro v H G' μ' M g r
  have h:PostS c G μ D (if noX d=true then .rt d (unM m) else .bad):=h
  by_cases hn:noX d=true
  ·rw [if_pos hn] at h
   exact h v H G' μ' M.unX g (r.noX hn)
  ·rw [if_neg hn] at h
   exact h.elim
 | exc e ρ m=>exact h.elim
 | bad=>exact h.elim
theorem Sim.ofW {W:WX} (S:Sim { c with W:=W } G μ ρ m σ H):Sim c G μ ρ m σ H:=⟨MemOk.ct (c:={ c with W:=W }) (c':=c) rfl rfl rfl rfl rfl rfl S.mem,S.env,S.len⟩
theorem Sim.toW {W:WX} (S:Sim c G μ ρ m σ H):Sim { c with W:=W } G μ ρ m σ H:=⟨MemOk.ct (c:=c) (c':={ c with W:=W }) rfl rfl rfl rfl rfl rfl S.mem,S.env,S.len⟩
def rIsE2 (K:PySem.W.Frag) (D a:Addr) (dd:Option Addr):List V→Hp→VK→Prop:=fun xs H Q=>(∀ dx,dd=some dx→∃ fv,H dx=some (.xd fv))∧rIsE K D a xs H Q
theorem qkr {t:XTab} {a Cd:Addr} {dd:Option Addr} (T:XTok c.K c.mg t) (hx:c.xo=some (a,.ref Cd,dd)):FunSim c (dIsX t) (rIsE2 c.K Cd a dd):=by
 intro G μ ρ m σ H xs us d Q S rs e k
 unfold dIsX at e
 split at e
 ·rename_i cn fs dn he
  obtain ⟨x,y,rfl,hx1,hy1⟩:=map2 he
  obtain ⟨u,v,rfl,r,r'⟩:=rep2 rs
  obtain ⟨b,e1,e2⟩:=wad.mp e
  cases e2
  have ex:x = .exc cn fs:=qam hx1 (by simp) (by simp) (by simp)
  have ey:y = .cls dn:=qam hy1 (by simp) (by simp) (by simp)
  subst ex ey
  cases r with
  | exc h1 h2=>
   rename_i a' cc dd
   rw [hx] at h1
   cases h1
   cases r' with
   | cls hD=>
    rename_i D
    obtain ⟨⟨C,v,P⟩,_⟩:=T _ (qbd e1)
    obtain ⟨C2,h3,h4,h5⟩:=h2
    have hfr:∀ dx,dd=some dx→∃ fv,H dx=some (.xd fv):=fun dx e=>by
     rcases h5 with ⟨_,q⟩ | ⟨_,d2,fv,q,hG,_⟩
     ·rw [q] at e; cases e
     ·rw [q] at e; cases e; exact ⟨fv,S.mem.gh _ _ hG⟩
    have e3:C=C2:=Value.ref.inj (Option.some.inj (P.g.symm.trans h3))
    subst e3
    obtain rfl:Cd=C:=Value.ref.inj h4
    have hv:v = .ref D:=by
     rcases P.n with ⟨q,_⟩ | ⟨_,q,_⟩
     ·exact Option.some.inj (q.symm.trans hD)
     ·rw [show c.mg dn=some _ from hD] at q; cases q
    subst hv
    exact ⟨hfr,.ref D,.ref D,b,rfl,fun u h=>h,P.kit,k _ _ _ _ S (.bl b) Gr.refl⟩
 ·rename_i cn fs n he
  obtain ⟨x,y,rfl,hx1,hy1⟩:=map2 he
  obtain ⟨u,v,rfl,r,r'⟩:=rep2 rs
  split at e
  ·rename_i hn
   subst hn
   obtain ⟨b,e1,e2⟩:=wad.mp e
   cases e2
   have ex:x = .exc cn fs:=qam hx1 (by simp) (by simp) (by simp)
   have ey:y = .ty "ValueError":=qam hy1 (by simp) (by simp) (by simp)
   subst ex ey
   cases r with
   | exc h1 h2=>
    rename_i a' cc dd
    rw [hx] at h1
    cases h1
    cases r'
    obtain ⟨⟨C,v,P⟩,_⟩:=T _ (qbd e1)
    obtain ⟨C2,h3,h4,h5⟩:=h2
    have hfr:∀ dx,dd=some dx→∃ fv,H dx=some (.xd fv):=fun dx e=>by
     rcases h5 with ⟨_,q⟩ | ⟨_,d2,fv,q,hG,_⟩
     ·rw [q] at e; cases e
     ·rw [q] at e; cases e; exact ⟨fv,S.mem.gh _ _ hG⟩
    have e3:C=C2:=Value.ref.inj (Option.some.inj (P.g.symm.trans h3))
    subst e3
    obtain rfl:Cd=C:=Value.ref.inj h4
    have hv:v = .type "ValueError":=by
     rcases P.n with ⟨_,q⟩ | ⟨_,_,q⟩
     ·exact absurd rfl q
     ·exact q
    subst hv
    exact ⟨hfr,.ty "ValueError",.type "ValueError",b,rfl,fun u h=>h,P.kit,k _ _ _ _ S (.bl b) Gr.refl⟩
  ·cases e
 ·cases e
theorem qep {d:Str} {D:Addr} {k:Nat} {pos:Pos} (F:Fit0 X c k) (hg:Gl X d) (gd:X.mg d=some (.ref D)) (hdb:(d == ("__debug__" : Str))=false:=by decide):PE X (.Name d pos) (rE c (eC (.cls d))):=
 qeG hg gd (fun _ _=>.cls (by rw [F.mg]; exact gd)) rfl hdb
theorem qks {k:Nat} {pos:Pos} (F:Fit0 X c k) (hg:Gl X "ValueError") (hm:X.mg "ValueError" = none):PE X (.Name "ValueError" pos) (rE c (eC (.ty "ValueError"))):=
 (pe_bltn (v:=.ty "ValueError") hg hm (by decide +kernel) rfl (by decide) (by decide)).imp fun _ _ _ h=>qbf (fun _ _=>.ty "ValueError") h
theorem Sim.wipe (S:Sim c G μ ρ m σ H):∀ vs:List Nat,Sim c G μ (wipeE ρ vs) m σ H
 | []=>S
 | v::vs=>by
  have h:=S.wipe vs
  refine ⟨h.mem,fun j d e=>?_,by simp [wipeE,h.len]⟩
  have e:((wipeE ρ vs).set v none)[j]? = some (some d):=e
  by_cases hj:v=j
  ·subst hj
   by_cases hl:v < (wipeE ρ vs).length
   ·rw [waz hl] at e; cases e
   ·rw [war (by simpa using hl)] at e; cases e
  ·rw [waF hj] at e
   exact h.env j d e
theorem PostS.wiped {D:Ends} {b:S} {vs:List Nat} (h:PostS c G μ D (sW b vs ρ m)):PostS c G μ D (b ρ m):=by
 unfold sW at h
 cases e:b ρ m with
 | nx ρ1 m1=>rw [e] at h; exact fun σ H G' μ' S g=>h _ _ _ _ (S.wipe vs) g
 | bk ρ1 m1=>rw [e] at h; exact fun σ H G' μ' S g=>h _ _ _ _ (S.wipe vs) g
 | ct ρ1 m1=>rw [e] at h; exact fun σ H G' μ' S g=>h _ _ _ _ (S.wipe vs) g
 | rt d m1=>rw [e] at h; exact h
 | exc x ρ1 m1=>rw [e] at h; exact h
 | bad=>rw [e] at h; exact h
theorem qa7 {st:List Stmt} {b:S} (vs:List Nat) (h:PSs X st (rS c b)):PSs X st (rS c (sW b vs)):=
 h.imp fun D σ H ⟨ρ,m,G,μ,S,q⟩=>⟨ρ,m,G,μ,S,q.wiped⟩
end
end TT

set_option maxHeartbeats 4000000
namespace SG
open PySem PySem.Spec PyProof.Rows L2
structure KI (P:Program) (w:World) (K:Type) [DecidableEq K] where
 knd:PySem.KeyKind P w K
 val:K→Tok→Value
 key:Value→K
 kv:∀ k t,key (val k t)=k
 iv:∀ k t,knd.is k (val k t)=true
 ii:∀ k k0 t,knd.is k (val k0 t)=true↔k0=k
 sc:∀ k t,(val k t).scannable=true
def kiStr (P:Program) (w:World):KI P w Str where
 knd:=PySem.strKind P w
 val:=fun x t=>.str x t
 key:=fun v=>match v with | .str x _=>x | _=>Str.empty
 kv:=fun _ _=>rfl
 iv:=fun k t=>PySem.strKind_is P w k t
 ii:=fun k k0 t=>by simp [PySem.strKind,Value.isStrOf]
 sc:=fun _ _=>rfl
def kiInt (P:Program) (w:World):KI P w Int where
 knd:=PySem.intKind P w
 val:=fun x t=>.int x t
 key:=fun v=>match v with | .int x _=>x | _=>0
 kv:=fun _ _=>rfl
 iv:=fun k t=>PySem.intKind_is P w k t
 ii:=fun k k0 t=>by simp [PySem.intKind,Value.isInt]
 sc:=fun _ _=>rfl
section
variable {K:Type} [DecidableEq K] {P:Program} {w:World} (J:KI P w K)
def Good (e:Int × Value):Prop:=∃ k tk,e.2=J.val k tk∧e.1=J.knd.hash k
def keyE (e:Int × Value):K:=J.key e.2
def SetG (h:Heap) (a:Addr) (S:K→Bool) (n:Nat):Prop:=
 ∃ o es ep t,h.get? a=some o∧o.ExactSet∧o.data = .set es ep t∧(∀ e∈es.toList,Good J e)∧(es.toList.map (keyE J)).Nodup∧(∀ k,S k=true↔k∈es.toList.map (keyE J)) ∧
  es.size < scanBound∧t.fits es.size=true∧es.size=n∧Ris t.place.toList∧(w.params.followText "set-order" = true∨t.led=true)
variable {J} {h h' : Heap} {a:Addr} {S:K→Bool} {n:Nat}
theorem SetG.at (R:SetG J h a S n) (k:∀ o,h.get? a=some o→h'.get? a=some o):SetG J h' a S n:=by
 obtain ⟨o,es,ep,t,ho,r⟩:=R
 exact ⟨o,es,ep,t,k o ho,r⟩
theorem SetG.congr {S' : K→Bool} (R:SetG J h a S n) (e:∀ k,S' k=S k):SetG J h a S' n:=(funext e:S' = S) ▸ R
theorem good_elemsG {l:List (Int × Value)} (g:∀ e∈l,Good J e):ElemsOf J.knd l:=fun e he=>by
 obtain ⟨k,tk,h1,h2⟩:=g e he
 exact ⟨⟨k,by rw [h1]; exact J.iv k tk,h2⟩,by rw [h1]; exact J.sc k tk⟩
theorem good_isG {e:Int × Value} (g:Good J e) (k:K):J.knd.is k e.2=true↔keyE J e=k:=by
 obtain ⟨k0,tk,h1,_⟩:=g
 unfold keyE
 rw [h1,J.kv]
 exact J.ii k k0 tk
theorem good_memG {l:List (Int × Value)} (g:∀ e∈l,Good J e) (k:K):k∈l.map (keyE J)↔∃ e∈l,J.knd.is k e.2=true:=by
 rw [wae]
 exact ⟨fun ⟨e,he,q⟩=>⟨e,he,(good_isG (g e he) k).2 q⟩,fun ⟨e,he,q⟩=>⟨e,he,(good_isG (g e he) k).1 q⟩⟩
theorem setG_new {S:K→Bool} (ho:h.get? a=some { cls:=.type "set",dict:=none,data:=.set #[] 0 (.fresh 0 0 (!w.params.followText "set-order")) }) (hS:∀ k,S k=false):SetG J h a S 0:=
 ⟨_,#[],0,_,ho,⟨rfl,rfl,rfl⟩,rfl,(fun e he=>by simp at he),(by simp),(fun k=>by simp [hS k]),(by decide),(by rfl),rfl,List.Pairwise.nil,by
  show _∨(!w.params.followText "set-order")=true
  cases w.params.followText "set-order"
  ·exact .inr rfl
  ·exact .inl rfl⟩
variable {A:Around} {E:Value→Shared→Prop} {s:Shared}
theorem setG_tail {g:Bool→Sem Unit} (hg:∀ (b:Bool) (s₁:Shared) (Q' : Unit→Shared→Prop),Q' () s₁→wpAny (model P w) A (g b) Q' E s₁)
  {o:Obj} {es:Array (Int × Value)} {ep:Nat} {t:SetTable} (ho:s.heap.get? a=some o) (hex:o.ExactSet) (hd:o.data = .set es ep t)
  {es1:Array (Int × Value)} {t2:SetTable} {S' : K→Bool} (g1:∀ e∈es1.toList,Good J e) (nd1:(es1.toList.map (keyE J)).Nodup) (m1:∀ k,S' k=true↔k∈es1.toList.map (keyE J))
  (hb1:es1.size < scanBound) (hf2:t2.fits es1.size=true) (hr:Ris t2.place.toList) (hl:w.params.followText "set-order" = true∨t2.led=true) {wasDummy:Bool} {R:Option Bool→Shared→Prop}
  (hR:∀ h',Heap.SameBut a s.heap h'→SetG J h' a S' es1.size→R (some true) { s with heap:=h' }) :
  wpAny (model P w) A (do
    storeSet a es1 t2
    if (!wasDummy && t2.tooFull)=true then do
      g (relayAll t2 es1 (SetTable.grown es1.size)).2.2
      storeSet a (relayAll t2 es1 (SetTable.grown es1.size)).1 (relayAll t2 es1 (SetTable.grown es1.size)).2.1
      pure (some true)
     else pure (some true)) R E s:=by
 refine wpAny_bind (wpAny_storeSet_of ho hd ?_ (fits_of_scanBound hb1))
 have ho1:=store_at (es':=es1) (t':=t2) ho hd
 have sb1:=Heap.SameBut.update s.heap a (Obj.putSet es1 t2)
 split
 ·have pm:=relayAll_perm t2 es1 (SetTable.grown es1.size)
  have hf3:=relayAll_fits t2 es1 (SetTable.grown es1.size)
  have hr3:=relayAll_ris t2 es1 (SetTable.grown es1.size)
  have hl3:=relayAll_led t2 es1 (SetTable.grown es1.size)
  generalize relayAll t2 es1 (SetTable.grown es1.size)=Z at pm hf3 hr3 hl3 ⊢
  obtain ⟨es2,t3,gave⟩:=Z
  dsimp only at pm hf3 hr3 hl3 ⊢
  have hsz:es2.size=es1.size:=by rw [← wap,pm.length_eq,wap]
  have hb2:es2.size < scanBound:=by rw [hsz]; exact hb1
  refine wpAny_bind (hg _ _ _ ?_)
  refine wpAny_bind (wpAny_storeSet_of ho1 rfl ?_ (fits_of_scanBound hb2))
  have ho2:=store_at (es':=es2) (t':=t3) ho1 rfl
  exact wpAny_pure (hR _ (sb1.trans (Heap.SameBut.update _ a _)) ⟨_,es2,_,t3,ho2,hex,rfl,fun e he=>g1 e (pm.mem_iff.mp he),(pm.map (keyE J)).nodup_iff.mpr nd1,fun k=>(m1 k).trans (pm.map (keyE J)).mem_iff.symm,hb2,hf3,hsz,hr3,
   hl.imp id fun z=>by rw [hl3]; exact z⟩)
 ·exact wpAny_pure (hR _ sb1 ⟨_,es1,_,t2,ho1,hex,rfl,g1,nd1,m1,hb1,hf2,rfl,hr,hl⟩)
theorem setG_add {k:K} {tk:Tok} {Q:Bool→Shared→Prop} (R:SetG J s.heap a S n) (room:n+1 < scanBound)
  (hQ:∀ h',Heap.SameBut a s.heap h'→SetG J h' a (fun j=>S j || decide (j=k)) (if S k=true then n else n+1)→Q (!S k) { s with heap:=h' }) :
  wpAny (model P w) A (setAddHashed a (J.val k tk) (J.knd.hash k)) Q E s:=by
 obtain ⟨o,es,ep,t,ho,hex,hd,g,nd,hm,hb,hf,hn,hr,hl⟩:=R
 have hkey:J.knd.is k (J.val k tk)=true:=J.iv k tk
 have hsc:(J.val k tk).scannable=true:=J.sc k tk
 have hel:ElemsOf J.knd es.toList:=good_elemsG g
 unfold setAddHashed setAddHashedIn
 refine wpAny_holding (wpAny_bind (wpAny_setState_of ho hd hf ?_))
 dsimp only
 rw [byScan_of hsc hb hel]
 simp only [↓reduceIte]
 unfold setAddByScan
 refine wpAny_bind ?_
 refine wpAny_bind (wpAny_rule ?_)
 refine wpAny_bind (wpAny_setScan_of hkey ho hd hf hel ?_)
 cases hfi:List.findIdx? (fun e=>J.knd.is k e.2) es.toList with
 | some j=>
  dsimp only
  obtain ⟨hj,pj,_⟩:=List.findIdx?_eq_some_iff_getElem.mp hfi
  have hSk:S k=true:=(hm k).2 ((good_memG g k).2 ⟨es.toList[j],wbD hj,pj⟩)
  refine wpAny_pure (wpAny_pure ?_)
  have q:=hQ s.heap (Heap.SameBut.refl a s.heap) ⟨o,es,ep,t,ho,hex,hd,g,nd,fun i=>by
   rw [wa5,decide_eq_true_eq,← hm i]
   exact ⟨fun z=>z.elim id (fun e=>e ▸ hSk),.inl⟩,hb,hf,by rw [if_pos hSk]; exact hn,hr,hl⟩
  rw [hSk] at q
  exact q
 | none=>
  dsimp only
  have hnk:k∉es.toList.map (keyE J):=fun z=>by
   obtain ⟨e,he,q⟩:=(good_memG g k).1 z
   have c:=List.findIdx?_eq_none_iff.mp hfi e he
   rw [q] at c
   cases c
  have hSk:S k=false:=by
   cases q:S k with
   | false=>rfl
   | true=>exact absurd ((hm k).1 q) hnk
  have hgw:∀ (b:Bool) {s₁:Shared} {Q' : Unit→Shared→Prop},Q' () s₁→wpAny (model P w) A (match b with | true=>rule "set.scan.the-table-gave-way" | false=>pure ()) Q' E s₁:=
   fun b s₁ Q' q=>by cases b <;> first | exact wpAny_pure q | exact wpAny_rule q
  have pm:=layNew_perm t es (J.knd.hash k) (J.val k tk)
  have hf1:=layNew_fits t es (J.knd.hash k) (J.val k tk)
  have hr1:=layNew_ris t es (J.knd.hash k) (J.val k tk) hr
  have hl1:=layNew_led t es (J.knd.hash k) (J.val k tk)
  generalize layNew t es (J.knd.hash k) (J.val k tk)=Z at pm hf1 hr1 hl1 ⊢
  obtain ⟨es1,t1,wasDummy,gave⟩:=Z
  dsimp only at pm hf1 hr1 hl1 ⊢
  rw [Array.toList_push] at pm
  have pc:es1.toList.Perm ((J.knd.hash k,J.val k tk)::es.toList):=pm.trans (List.perm_append_singleton _ _)
  have pk:(es1.toList.map (keyE J)).Perm (k::es.toList.map (keyE J)):=by
   have z:=pc.map (keyE J)
   rw [wah,show keyE J (J.knd.hash k,J.val k tk)=k from J.kv k tk] at z
   exact z
  have g1:∀ e∈es1.toList,Good J e:=fun e he=>by
   rcases wat.mp (pc.mem_iff.mp he) with z | z
   ·rw [z]; exact ⟨k,tk,rfl,rfl⟩
   ·exact g e z
  have nd1:(es1.toList.map (keyE J)).Nodup:=pk.nodup_iff.mpr (wa2.mpr ⟨hnk,nd⟩)
  have m1:∀ i,(S i || decide (i=k))=true↔i∈es1.toList.map (keyE J):=fun i=>by
   rw [wa5,decide_eq_true_eq,hm i,pk.mem_iff,wat]
   exact Or.comm
  have hsz:es1.size=n+1:=by rw [← wap,pc.length_eq,wab,wap,hn]
  have hb1:es1.size < scanBound:=by rw [hsz]; exact room
  have hled:w.params.followText "set-order" = true∨t1.led=true:=hl.imp id fun z=>by rw [hl1]; exact z
  have fin:∀ h',Heap.SameBut a s.heap h'→SetG J h' a (fun j=>S j || decide (j=k)) es1.size→Q true { s with heap:=h' }:=fun h' sb r=>by
   have q:=hQ h' sb
   rw [hSk] at q
   rw [hsz] at r
   exact q r
  refine wpAny_bind (hgw _ ?_)
  split
  ·refine wpAny_bind ?_
   rw [hashByValue_scannable 8 hsc]
   refine wpAny_pure ?_
   refine setG_tail ?_ ho hex hd g1 nd1 m1 hb1 ?_ ?_ ?_ ?_
   ·intro b s₁ Q' q; cases b <;> first | exact wpAny_pure q | exact wpAny_rule q
   ·first | (split <;> first | exact hf1 | exact SetTable.fits_plain_off hf1) | exact hf1
   ·first | (split <;> exact hr1) | exact hr1
   ·first | (split <;> exact hled) | exact hled
   ·intro h' sb r; dsimp only; exact wpAny_pure (fin h' sb r)
  ·refine wpAny_bind (wpAny_pure ?_)
   simp only [↓reduceIte]
   refine setG_tail ?_ ho hex hd g1 nd1 m1 hb1 hf1 hr1 hled ?_
   ·intro b s₁ Q' q; cases b <;> first | exact wpAny_pure q | exact wpAny_rule q
   ·intro h' sb r; dsimp only; exact wpAny_pure (fin h' sb r)
theorem setG_loop {I:Addr} {fp wr:List Addr} {G:Array GenState→Array GenState→Prop} {n:Nat} {Pv:Nat→Value→Prop} {St:Nat→Shared→Prop} {R:Result→Shared→Prop}
  (W:WalksS P w A.in1 I fp wr G n Pv St) (X:Addr) (hXf:X∉fp) (ks:List K) (hn:n=ks.length) (hb:ks.length+1 < scanBound) (hval:∀ i v,Pv i v→∃ k t,ks[i]? = some k∧v=J.val k t) :
  ∀ (k i:Nat) (s:Shared),n - i=k→i≤n→St i s→(∃ c,c≤i∧SetG J s.heap X (fun j=>decide (j∈ks.take i)) c) →
   (∀ s' c,Moved (X::wr) G s s'→SetG J s'.heap X (fun j=>decide (j∈ks)) c→R (.ok (.ret .none)) s') →
   codeAny (model P w) A (.builtin "set.update.loop" ⟨[.ref X,.ref I],[]⟩) R s:=by
 have hXw:X∉wr:=fun h=>hXf (W.sub _ h)
 have hsub:∀ b∈wr,b∈X::wr:=fun b hb=>waJ _ hb
 intro k
 induction k with
 | zero=>
  intro i s hk' hi hst ⟨c,hc,hS⟩ hR
  have hin:i=n:=by omega
  subst hin
  refine codeAny_builtin PyProof.Rows.F.entry_set_update_loop ?_
  rw [Around.under_plainId PyProof.Rows.F.plain_set_update_loop _]
  show wpAny _ A.in1 (pyNext (.ref I) >>= _) _ _ s
  refine wpAny_bind (W.done s _ _ hst fun s' hm=>?_)
  show wpAny _ A.in1 (ret Value.none) _ _ s'
  have e:ks.take i=ks:=List.take_of_length_le (by omega)
  rw [e] at hS
  exact wpAny_pure (hR s' c (hm.mono hsub) (hS.at fun o e=>hm.heap X o hXw e))
 | succ k ih=>
  intro i s hk' hi hst ⟨c,hc,hS⟩ hR
  have hlt:i < n:=by omega
  refine codeAny_builtin PyProof.Rows.F.entry_set_update_loop ?_
  rw [Around.under_plainId PyProof.Rows.F.plain_set_update_loop _]
  show wpAny _ A.in1 (pyNext (.ref I) >>= _) _ _ s
  refine wpAny_bind (W.item i s _ _ hlt hst fun v s' hP hst' hm=>?_)
  obtain ⟨z,t,hz,rfl⟩:=hval i v hP
  have hS' : SetG J s'.heap X (fun j=>decide (j∈ks.take i)) c:=hS.at fun o e=>hm.heap X o hXw e
  show wpAny _ A.in1 (holding [J.val z t] (setAdd X (J.val z t)) >>= _) _ _ s'
  refine wpAny_bind (wpAny_holding ?_)
  unfold setAdd
  refine wpAny_holding ?_
  refine wpAny_bind (J.knd.pyHash (k:=z) (J.iv _ _) ?_)
  refine setG_add (s:={ s' with toks:=s'.toks+1 }) hS' (by omega) fun h' hsb hS2=>?_
  have hS3:SetG J h' X (fun j=>decide (j∈ks.take (i+1))) (if decide (z∈ks.take i)=true then c else c+1):=hS2.congr fun j=>by
   rw [List.take_add_one,hz]
   simp [wau]
  have hc3:(if decide (z∈ks.take i)=true then c else c+1)≤i+1:=by
   split <;> omega
  refine wpAny_pure ⟨plainId_quiet PyProof.Rows.F.plain_set_update_loop _,ih (i+1) _ (by omega) hlt (W.frame _ s' _ _ hst' (Nat.le_succ _) fun b hb o e=>?_) ⟨_,hc3,hS3⟩ fun s'' c2 hm'' hS''=>?_⟩
  ·rw [hsb.2 b (fun h:b=X=>hXf (by rw [← h]; exact hb))]; exact e
  ·refine hR s'' c2 (Moved.trans W.gtrans ((hm.mono hsub).then_heap (Nat.le_succ _) fun b o hb e=>?_) hm'') hS''
   rw [hsb.2 b (fun h:b=X=>hb (by rw [h]; exact waw))]; exact e
end
end SG
namespace SG
open PySem PySem.Spec PyProof.Rows L2
section
variable {K:Type} [DecidableEq K] {P:Program} {w:World} {J:KI P w K} {A:Around} {E:Value→Shared→Prop} {s:Shared}
abbrev freshSet (w:World):Obj:={ cls:=.type "set",dict:=none,data:=.set #[] 0 (.fresh 0 0 (!w.params.followText "set-order")) }
set_option maxHeartbeats 6400000 in
theorem call_setG {v:Value} {T:String} {o:Obj} {G:Heap→Prop} {src:List Addr} {n:Nat} {Pv:Nat→Value→Prop} {St:Addr→Nat→Heap→Prop} {Q:Value→Shared→Prop} (ks:List K)
  (B:Begins v o G) (hT:∀ s' : Shared,(∀ b o,s.heap.get? b=some o→s'.heap.get? b=some o)→s'.TypeIs v T) (hh:A.handled=none) (h1:isSubtype (.type T) (.type "set")=pure false) (h2:isSubtype (.type T) (.type "frozenset")=pure false) (hnd:(Value.type T == Value.type "dict")=false)
  (g:G s.heap) (hsrc:∀ b∈src,b < s.heap.objs.size) (W:∀ (A' : Around) (I:Addr),A'.handled=none→I∉src→Walks P w A' I (I::src) [I] n Pv (St I)) (start:∀ I h,h.get? I=some o→G h→St I 0 h)
  (hn:n=ks.length) (hb:ks.length+1 < scanBound) (hval:∀ i v,Pv i v→∃ k t,ks[i]? = some k∧v=J.val k t)
  (h:∀ (h' : Heap) (tk c:Nat),SetG J h' s.heap.objs.size (fun j=>decide (j∈ks)) c→(∀ b o,s.heap.get? b=some o→h'.get? b=some o)→Q (.ref s.heap.objs.size) { s with heap:=h',toks:=tk }) :
  wpAny (model P w) A (call (.type "set") [v]) Q E s:=by
 obtain ⟨c,tl,hmro⟩:=PySem.F.called_set.mro
 have hmade:=PySem.F.called_set.made
 have hsub:=PySem.F.called_set.sub
 refine wpAny_call (codeAny_of_tree ?_)
 show wpAny _ _ (callAny (.type "set") _) _ _ _
 refine wpAny_pure ⟨Code.quiet_builtin _ (by decide +kernel),codeAny_builtin F.entry_type_call ?_⟩
 rw [Around.under_plain (weight_type_call_type "set" [v] []) rfl]
 have e1:=PySem.F.called_set.notType
 have e2:=PySem.F.called_set.canCreate
 have hct:=PySem.F.typeCall_set_1 v
 repeat (any_goals (first | assumption | wp_step))
 refine codeAny_mono (code_set_led1 v (E:=E) (Q₁:=fun obj s₁=>obj = .ref s.heap.objs.size∧s₁ = { s with heap:=s.heap.push (freshSet w) }) ⟨rfl,rfl⟩) fun r s₁ hr=>?_
 cases r with
 | error e=>exact hr
 | ok fl=>
  cases fl with
  | ret obj=>
   obtain ⟨rfl,rfl⟩:=hr
   have hS:(s.heap.push (freshSet w)).get? s.heap.objs.size=some (freshSet w):=Heap.get?_push_size _ rfl
   have hTs:Shared.TypeIs { s with heap:=s.heap.push (freshSet w) } (.ref s.heap.objs.size) "set":=⟨_,hS,rfl⟩
   have hli:=PySem.F.called_set.init.lookup
   have hbi:=PySem.F.called_set.init.bind (.ref s.heap.objs.size)
   repeat (any_goals (first | assumption | wp_step))
   refine codeAny_mono (codeAny_call_builtin (R:=wants (fun r s₂=>r = .none∧∃ h' tk c,s₂ = { s with heap:=h',toks:=tk }∧SetG J h' s.heap.objs.size (fun j=>decide (j∈ks)) c ∧
     (∀ b o,s.heap.get? b=some o→h'.get? b=some o)) E) PySem.F.called_set.init.plain PySem.F.entry_set_init (check_set_init_1 hTs ?_)) fun r₂ s₂ hr₂=>?_
   ·have hTv:=hT { s with heap:=s.heap.push (freshSet w) } fun b o e=>Heap.get?_push_of_some _ e
    unfold Builtin.«set.__init__» noKeywords
    generalize hPI:Builtin.Frozenset.updateFrom=PI
    wp_walk
    subst hPI
    unfold Builtin.Frozenset.updateFrom
    refine wpAny_bind ?_
    refine wpAny_bind (wpAny_isInstance (b:=false) hTv h1 (wpAny_isInstance (b:=false) hTv h2 ?_))
    simp only [waG,if_false]
    refine wpAny_bind (wpAny_typeOf hTv ?_)
    simp only [hnd,waG,if_false]
    refine wpAny_bind (B.iter P w _ _ _ _ (B.keeps _ _ g fun b o' e=>Heap.get?_push_of_some _ e) ?_)
    refine wpAny_bind (wpAny_runValue ?_)
    have hz1:(s.heap.push (freshSet w)).objs.size=s.heap.objs.size+1:=Heap.size_push ..
    have hI:(s.heap.push (freshSet w)).objs.size∉src:=fun q=>by
     have z:=hsrc _ q
     rw [hz1] at z
     exact wbA _ (Nat.lt_of_succ_lt z)
    have hSf:s.heap.objs.size∉(s.heap.push (freshSet w)).objs.size::src:=fun q=>by
     rcases wat.mp q with q | q
     ·rw [hz1] at q; omega
     ·exact wbA _ (hsrc _ q)
    have hh3:A.in1.in1.in1.handled=none:=by simp [hh]
    refine setG_loop ((W _ _ hh3 hI).toS) s.heap.objs.size hSf ks hn hb hval (n - 0) 0 _ (by omega) (waN _)
     (start _ _ (Heap.get?_push_size _ B.free) (B.keeps _ _ g fun b o' e=>Heap.get?_push_of_some _ (Heap.get?_push_of_some _ e))) ⟨0,waL 0,setG_new (Heap.get?_push_of_some _ hS) (by simp)⟩ ?hR
    intro s' c' hm hS'
    obtain ⟨h',g2,d',tk',os'⟩:=s'
    have eg:g2=s.gens:=hm.gens
    have ed:d' = s.drawn:=hm.drawn
    have eo:os' = s.os:=hm.os
    subst eg; subst ed; subst eo
    show wpAny _ _ _ _ _ _
    refine wpAny_pure ?_
    show wpAny _ _ (ret Value.none) _ _ _
    refine wpAny_pure ⟨rfl,h',tk',c',rfl,hS',fun b o e=>?_⟩
    have hb0:b < s.heap.objs.size:=Heap.lt_size e
    refine hm.heap b o (fun q=>?_) (Heap.get?_push_of_some _ (Heap.get?_push_of_some _ e))
    rcases wat.mp q with q | q
    ·exact absurd hb0 (by rw [q]; exact wbA _)
    ·have q:=waC.mp q
     rw [q,hz1] at hb0
     exact wbA _ (Nat.lt_of_succ_lt hb0)
   ·cases r₂ with
    | error e=>exact hr₂
    | ok fl₂=>
     cases fl₂ with
     | ret r=>
      obtain ⟨rfl,h',tk,c',rfl,hS',hk'⟩:=hr₂
      repeat (any_goals (first | assumption | wp_step))
      exact h _ _ _ hS' hk'
     | _=>exact hr₂.elim
  | _=>exact hr.elim
end
end SG

set_option maxHeartbeats 4000000
namespace SG
open PySem PySem.Spec PyProof.Rows L2
section
variable {P:Program} {w:World} {A:Around} {E:Value→Shared→Prop} {s:Shared}
theorem strs_ofG (P:Program) (w:World):∀ (l:List Value),(∀ v∈l,∃ k tk,v=(kiStr P w).val k tk)→StrsAre l (l.map (kiStr P w).key)
 | [],_=>.nil
 | v::l,h=>by
  obtain ⟨k,tk,rfl⟩:=h v waw
  exact .cons k tk (strs_ofG P w l fun u hu=>h u (waJ _ hu))
theorem ints_ofG (P:Program) (w:World):∀ (l:List Value),(∀ v∈l,∃ k tk,v=(kiInt P w).val k tk)→IntsAre l (l.map (kiInt P w).key)
 | [],_=>.nil
 | v::l,h=>by
  obtain ⟨k,tk,rfl⟩:=h v waw
  exact .cons k tk (ints_ofG P w l fun u hu=>h u (waJ _ hu))
theorem sorted_setS {a:Addr} {S:Str→Bool} {n:Nat} {Q:Value→Shared→Prop} (R:SetG (kiStr P w) s.heap a S n) (hh:A.handled=none)
  (hQ:∀ s' p (out:Array Value) (c:Nat) (ns:List Str),(∀ b o,s.heap.get? b=some o→s'.heap.get? b=some o)→s'.gens=s.gens→s'.os=s.os→s.heap.objs.size≤p →
   s'.heap.get? p=some (seqObj "list" out c)→StrsAre out.toList ns→sortedS ns=true→ns.Nodup→(∀ k,k∈ns↔S k=true)→ns.length < scanBound→Q (.ref p) s') :
  wpAny (model P w) A (call (.builtin "sorted") [.ref a]) Q E s:=by
 obtain ⟨o,es,ep,t,ho,hex,hd,g,nd,hm,hb,hf,hn,hr,hl⟩:=R
 refine Calls.call_function_entry kind_sorted plain_sorted entry_sorted (args_sorted1 _) ?_
 unfold Builtin.«sorted»
 refine wpAny_bind (m:=checkCount "sorted" 1 1 _) (wpAny_pure ?_)
 refine wpAny_bind (collect_set (A:=A.in1) hh ⟨o,ho,hex.1,hd⟩ hf hb hr hl fun s1 vs k1 hz g1 o1 pm=>?_)
 have hvl:vs.length=n:=by rw [pm.length_eq,waa,wap]; exact hn
 have hvb:vs.length < scanBound:=by rw [hvl,← hn]; exact hb
 have hI:StrsAre vs (vs.map (kiStr P w).key):=strs_ofG P w vs fun v hv=>by
  obtain ⟨e,he,q⟩:=wae.mp (pm.mem_iff.mp hv)
  obtain ⟨k,tk,h1,_⟩:=g e he
  exact ⟨k,tk,by rw [← q]; exact h1⟩
 have pk:(vs.map (kiStr P w).key).Perm (es.toList.map (keyE (kiStr P w))):=by
  have q:=pm.map (kiStr P w).key
  rw [waT] at q
  exact q
 have hsl:vs.length≤sizeLine:=by
  have:scanBound=4096:=rfl
  rw [sizeLine_eq]
  omega
 refine wpAny_bind (wpAny_newList ?_ hsl)
 have hoL:(s1.heap.push (seqObj "list" vs.toArray 0)).get? s1.heap.objs.size=some (seqObj "list" vs.toArray 0):=Heap.get?_push_size _ rfl
 refine wpAny_bind (wpAny_holding (wpAny_call_entry slot_list_sort ⟨_,hoL,rfl⟩ entry_list_sort (list_sort_treeKAny strKind_oneLt hoL hI.keysOf (fun v₁ v₂ rest e=>keyKind_strs (by rw [← e]; exact hI)) hsl fun st' hp hs=>⟨_,rfl,?_⟩) (args_list_sort _)))
 obtain ⟨ns',a1,a2,a3⟩:=sorted_out_str hI hp hs
 obtain ⟨c,hc⟩:=sortedHeap_at (vs:=vs) (out:=(arrOf st').map (·.2)) hoL
 have pn:ns'.Perm (es.toList.map (keyE (kiStr P w))):=a2.trans pk
 refine wpAny_pure ⟨_,rfl,hQ _ s1.heap.objs.size _ c ns' (fun b u e=>?_) g1 o1 hz hc a1 a3 (pn.nodup_iff.mpr nd) (fun k=>by rw [pn.mem_iff,← hm k]) (by rw [a2.length_eq,waa]; exact hvb)⟩
 have q:=k1 b u e
 have hlt:=Heap.lt_size q
 show (sortedHeap (s1.heap.push (seqObj "list" vs.toArray 0)) s1.heap.objs.size vs _).get? b=some u
 rw [sortedHeap_old (wbt hlt) (by rw [size_push']; exact Nat.lt_succ_of_lt hlt)]
 exact Heap.get?_push_of_some _ q
theorem sorted_setI {a:Addr} {S:Int→Bool} {n:Nat} {Q:Value→Shared→Prop} (R:SetG (kiInt P w) s.heap a S n) (hh:A.handled=none)
  (hQ:∀ s' p (out:Array Value) (c:Nat) (ns:List Int),(∀ b o,s.heap.get? b=some o→s'.heap.get? b=some o)→s'.gens=s.gens→s'.os=s.os→s.heap.objs.size≤p →
   s'.heap.get? p=some (seqObj "list" out c)→IntsAre out.toList ns→ns.Pairwise (· < ·)→(∀ k,k∈ns↔S k=true)→ns.length < scanBound→Q (.ref p) s') :
  wpAny (model P w) A (call (.builtin "sorted") [.ref a]) Q E s:=by
 obtain ⟨o,es,ep,t,ho,hex,hd,g,nd,hm,hb,hf,hn,hr,hl⟩:=R
 refine Calls.call_function_entry kind_sorted plain_sorted entry_sorted (args_sorted1 _) ?_
 unfold Builtin.«sorted»
 refine wpAny_bind (m:=checkCount "sorted" 1 1 _) (wpAny_pure ?_)
 refine wpAny_bind (collect_set (A:=A.in1) hh ⟨o,ho,hex.1,hd⟩ hf hb hr hl fun s1 vs k1 hz g1 o1 pm=>?_)
 have hvl:vs.length=n:=by rw [pm.length_eq,waa,wap]; exact hn
 have hvb:vs.length < scanBound:=by rw [hvl,← hn]; exact hb
 have hI:IntsAre vs (vs.map (kiInt P w).key):=ints_ofG P w vs fun v hv=>by
  obtain ⟨e,he,q⟩:=wae.mp (pm.mem_iff.mp hv)
  obtain ⟨k,tk,h1,_⟩:=g e he
  exact ⟨k,tk,by rw [← q]; exact h1⟩
 have pk:(vs.map (kiInt P w).key).Perm (es.toList.map (keyE (kiInt P w))):=by
  have q:=pm.map (kiInt P w).key
  rw [waT] at q
  exact q
 have hsl:vs.length≤sizeLine:=by
  have:scanBound=4096:=rfl
  rw [sizeLine_eq]
  omega
 refine wpAny_bind (wpAny_newList ?_ hsl)
 have hoL:(s1.heap.push (seqObj "list" vs.toArray 0)).get? s1.heap.objs.size=some (seqObj "list" vs.toArray 0):=Heap.get?_push_size _ rfl
 refine wpAny_bind (wpAny_holding (wpAny_call_entry slot_list_sort ⟨_,hoL,rfl⟩ entry_list_sort (list_sort_treeAny hoL hI hsl fun out ns' a1 a2 a3=>⟨_,rfl,?_⟩) (args_list_sort _)))
 obtain ⟨c,hc⟩:=sortedHeap_at (vs:=vs) (out:=out) hoL
 have pn:ns'.Perm (es.toList.map (keyE (kiInt P w))):=a2.trans pk
 refine wpAny_pure ⟨_,rfl,hQ _ s1.heap.objs.size _ c ns' (fun b u e=>?_) g1 o1 hz hc a1 (lt_of_le_nodup ns' a3 (pn.nodup_iff.mpr nd)) (fun k=>by rw [pn.mem_iff,← hm k]) (by rw [a2.length_eq,waa]; exact hvb)⟩
 have q:=k1 b u e
 have hlt:=Heap.lt_size q
 show (sortedHeap (s1.heap.push (seqObj "list" vs.toArray 0)) s1.heap.objs.size vs _).get? b=some u
 rw [sortedHeap_old (wbt hlt) (by rw [size_push']; exact Nat.lt_succ_of_lt hlt)]
 exact Heap.get?_push_of_some _ q
end
theorem paired_get {α β:Type} {F:α→β→Prop}:∀ {l₁:List α} {l₂:List β} {j:Nat} {x:β},Paired F l₁ l₂→l₂[j]? = some x→∃ y,l₁[j]? = some y∧F y x
 | _,_,_,_,.nil,h=>by simp at h
 | _,_,0,_,.cons a _,h=>by
  obtain rfl:=by simpa using h
  exact ⟨_,rfl,a⟩
 | _,_,j+1,_,.cons _ t,h=>by
  obtain ⟨y,h1,h2⟩:=paired_get (j:=j) t (by simpa using h)
  exact ⟨y,by simpa using h1,h2⟩
section
variable {K:Type} [DecidableEq K]
def SetX (P:Program) (w:World) (J:KI P w K) (a:Addr) (S:K→Bool) (n:Nat):HO:=.ext fun h=>SetG J h a S n
theorem setX_new {P:Program} {w:World} {J:KI P w K} {H:Hp} {h:Heap} {a:Addr} {S:K→Bool} {n:Nat} (R:SetG J h a S n):ObjOk P w H h a (SetX P w J a S n):=by
 have ⟨o,_,_,_,ho,_⟩:=R
 exact ⟨R,⟨o,ho⟩,fun h1 h2 p k=>SetG.at p k⟩
theorem setX_get {X:Cx} {J:KI X.prog X.w K} {pins:List (Addr × Obj)} {σ:L2.St} {H:Hp} {s:Shared} {a:Addr} {S:K→Bool} {n:Nat} (I:Inv X pins σ H s) (ha:H a=some (SetX X.prog X.w J a S n)):SetG J s.heap a S n:=(I.hok a _ ha).1
end
def rSetS (P:Program) (w:World) (K:PySem.W.Frag):List V→Hp→VK→Prop:=fun xs H Q=>∃ (x:V) (ks:List Str),xs=[x]∧(∃ sh,ZG.Src K H sh x (ks.map V.str))∧ks.length+1 < scanBound ∧
 ∀ a c,H a=none→Q (.ref a) (upd H a (SetX P w (kiStr P w) a (fun j=>decide (j∈ks)) c))
def rSetI (P:Program) (w:World) (K:PySem.W.Frag):List V→Hp→VK→Prop:=fun xs H Q=>∃ (x:V) (ks:List Int),xs=[x]∧(∃ sh,ZG.Src K H sh x (ks.map V.int))∧ks.length+1 < scanBound ∧
 ∀ a c,H a=none→Q (.ref a) (upd H a (SetX P w (kiInt P w) a (fun j=>decide (j∈ks)) c))
section
variable {X:Cx} {pins:List (Addr × Obj)} {σ:L2.St} {H:Hp} {s:Shared}
theorem set_src {K:Type} [DecidableEq K] {J:KI X.prog X.w K} {sh:ZG.Sh} {x:V} {u:Value} {vs:List V} {Q:Value→Shared→Prop} {E:Value→Shared→Prop} (I:Inv X pins σ H s) (hh:X.A.handled=none) (r:RelV x u) (q:ZG.Src X.K H sh x vs) (ks:List K) (hk:vs.length=ks.length)
  (hv:∀ (i:Nat) (y:V) (v:Value),vs[i]? = some y→RelV y v→∃ k t,ks[i]? = some k∧v=J.val k t) (hb:ks.length+1 < scanBound)
  (h:∀ (h' : Heap) (tk c:Nat),SetG J h' s.heap.objs.size (fun j=>decide (j∈ks)) c→(∀ b o,s.heap.get? b=some o→h'.get? b=some o)→Q (.ref s.heap.objs.size) { s with heap:=h',toks:=tk }) :
  wpAny (model X.prog X.w) X.A (call (.type "set") [u]) Q E s:=by
 cases q with
 | l hs=>
  rename_i a
  cases r
  obtain ⟨its,rv,p,_⟩:=I.list hs
  obtain ⟨o,n0,ho,hc,_,hd⟩:=id p
  have hl:=rv.length
  refine call_setG (J:=J) (T:="list") (src:=[a]) (n:=its.toArray.size) (Pv:=fun i v=>its.toArray[i]? = some v) (St:=fun I i h=>h.IsListIter I a i∧h.IsList a its.toArray) ks (begins_list a its.toArray) (fun s' k=>⟨o,k _ _ ho,hc⟩) hh PySem.F.sub_list_set PySem.F.sub_list_frozenset (by decide) p.isList
   (fun b hb=>by
     obtain rfl:b=a:=by simpa using hb
     exact p.lt) (fun A' I0 h0 hI=>Walks.list h0 I0 a (fun z=>hI (by simp [z])) its.toArray) (fun I0 h0 e g=>⟨⟨_,e,rfl,rfl⟩,g⟩) (by rw [waW,← hl]; exact hk) hb (fun i v hv'=>?_) h
  have hv' : its[i]? = some v:=by simpa using hv'
  obtain ⟨y,hy,ry⟩:=paired_get rv hv'
  exact hv i y v hy ry
 | t hs=>
  rename_i a
  cases r
  obtain ⟨its,rv,p,_⟩:=I.tuple hs
  obtain ⟨o,ho,hc,hd⟩:=id p
  have hl:=rv.length
  refine call_setG (J:=J) (T:="tuple") (src:=[a]) (n:=its.toArray.size) (Pv:=fun i v=>its.toArray[i]? = some v) (St:=fun I i h=>h.IsTupleIter I a i∧h.IsTuple a its.toArray) ks (begins_tuple a its.toArray) (fun s' k=>⟨o,k _ _ ho,hc⟩) hh PySem.F.sub_tuple_set PySem.F.sub_tuple_frozenset (by decide) p
   (fun b hb=>by
     obtain rfl:b=a:=by simpa using hb
     exact Heap.lt_size ho) (fun A' I0 h0 hI=>Walks.tuple h0 I0 a (fun z=>hI (by simp [z])) its.toArray) (fun I0 h0 e g=>⟨⟨_,e,rfl,rfl⟩,g⟩) (by rw [waW,← hl]; exact hk) hb (fun i v hv'=>?_) h
  have hv' : its[i]? = some v:=by simpa using hv'
  obtain ⟨y,hy,ry⟩:=paired_get rv hv'
  exact hv i y v hy ry
 | s z=>
  obtain ⟨t,rfl⟩:=r
  have hl:z.cps.size=ks.length:=by rw [← hk]; simp
  refine call_setG (J:=J) (T:="str") (src:=[]) (n:=z.cps.size) (Pv:=SignAt z) (St:=fun I i h=>h.IsStrIter I (strIterType z) z t i) ks (begins_text z t) (fun s' k=>typeIs_str _ _ _) hh PySem.F.sub_str_set PySem.F.sub_str_frozenset (by decide) trivial
   (fun b hb=>by simp at hb) (fun A' I0 h0 hI=>?_) (fun I0 h0 e g=>⟨_,e,rfl,rfl⟩) hl hb (fun i v hv'=>?_) h
  ·cases ha:z.cps.all (· < 128)
   ·simp only [strIterType,ha,waG,if_false]
    exact Walks.strWide h0 I0 z t
   ·simp only [strIterType,ha,if_true]
    exact Walks.strAscii h0 I0 z t
  ·obtain ⟨c,u,hc,rfl⟩:=hv'
   have hc' : z.cps.toList[i]? = some c:=by simpa using hc
   exact hv i (.str ⟨#[c]⟩) _ (by rw [wal,hc']; rfl) ⟨u,rfl⟩
theorem cr_setS (hc:X.calm=true):CallR X (.type "set") (rSetS X.prog X.w X.K):=by
 intro pins s σ H xs us Q I r h
 obtain ⟨x,ks,rfl,⟨sh,hs⟩,hb,q⟩:=h
 obtain ⟨u,rfl,ru⟩:=vals1 r
 refine set_src (J:=kiStr X.prog X.w) I (I.ok.hd hc) ru hs ks (by simp) (fun i y v hy ry=>?_) hb fun h' tk c R k=>?_
 ·rw [wal] at hy
  obtain ⟨z,hz,rfl⟩:=wad.mp hy
  obtain ⟨t,rfl⟩:=ry
  exact ⟨z,t,hz,rfl⟩
 ·exact ⟨.ref _,upd H s.heap.objs.size (SetX X.prog X.w (kiStr X.prog X.w) s.heap.objs.size (fun j=>decide (j∈ks)) c),I.laid (t':=tk) k (waL _) (setX_new R),rfl,q _ c (I.hok.fresh (waL _))⟩
theorem cr_setI (hc:X.calm=true):CallR X (.type "set") (rSetI X.prog X.w X.K):=by
 intro pins s σ H xs us Q I r h
 obtain ⟨x,ks,rfl,⟨sh,hs⟩,hb,q⟩:=h
 obtain ⟨u,rfl,ru⟩:=vals1 r
 refine set_src (J:=kiInt X.prog X.w) I (I.ok.hd hc) ru hs ks (by simp) (fun i y v hy ry=>?_) hb fun h' tk c R k=>?_
 ·rw [wal] at hy
  obtain ⟨z,hz,rfl⟩:=wad.mp hy
  obtain ⟨t,rfl⟩:=ry
  exact ⟨z,t,hz,rfl⟩
 ·exact ⟨.ref _,upd H s.heap.objs.size (SetX X.prog X.w (kiInt X.prog X.w) s.heap.objs.size (fun j=>decide (j∈ks)) c),I.laid (t':=tk) k (waL _) (setX_new R),rfl,q _ c (I.hok.fresh (waL _))⟩
def rSortSS (P:Program) (w:World):List V→Hp→VK→Prop:=fun vs H Q=>∃ (a:Addr) (S:Str→Bool) (n:Nat),vs=[V.ref a]∧H a=some (SetX P w (kiStr P w) a S n) ∧
 ∀ (ns:List Str) (p:Addr),sortedS ns=true→ns.Nodup→(∀ k,k∈ns↔S k=true)→H p=none→Q (.ref p) (upd H p (.lst (ns.map V.str)))
def rSortSI (P:Program) (w:World):List V→Hp→VK→Prop:=fun vs H Q=>∃ (a:Addr) (S:Int→Bool) (n:Nat),vs=[V.ref a]∧H a=some (SetX P w (kiInt P w) a S n) ∧
 ∀ (ns:List Int) (p:Addr),ns.Pairwise (· < ·)→(∀ k,k∈ns↔S k=true)→H p=none→Q (.ref p) (upd H p (.lst (ns.map V.int)))
theorem shared_eta {s s' : Shared} (o:s'.os=s.os):s' = { s with heap:=s'.heap,gens:=s'.gens,drawn:=s'.drawn,toks:=s'.toks }:=by
 cases s'
 cases s
 cases o
 rfl
theorem cr_sortSS (hc:X.calm=true):CallR X (.builtin "sorted") (rSortSS X.prog X.w):=by
 intro pins s σ H vs us Q I r h
 obtain ⟨a,S,n,rfl,ha,q⟩:=h
 have R:=setX_get I ha
 rw [Vals.ref1 r]
 refine sorted_setS R (I.ok.hd hc) fun s' p out c ns k g o hp hg hi hs hn hm hl=>?_
 have hlen:(ns.map V.str).length≤sizeLine:=by
  have:scanBound=4096:=rfl
  rw [waa,sizeLine_eq]; omega
 have hno:H p=none:=I.hok.fresh hp
 have J:Inv X pins σ (upd H p (.lst (ns.map V.str))) { s with heap:=s'.heap,gens:=s'.gens,drawn:=s'.drawn,toks:=s'.toks }:=
  I.call (ch:=[]) (Un.laid k hp hno) (I.hok.laid k hp ⟨hlen,out.toList,c,vals_of_strs hi,hg⟩) (by rw [g]; exact I.bare) (fun _ z=>nomatch z)
 rw [shared_eta o]
 exact ⟨.ref p,_,J,rfl,q ns p hs hn hm hno⟩
theorem cr_sortSI (hc:X.calm=true):CallR X (.builtin "sorted") (rSortSI X.prog X.w):=by
 intro pins s σ H vs us Q I r h
 obtain ⟨a,S,n,rfl,ha,q⟩:=h
 have R:=setX_get I ha
 rw [Vals.ref1 r]
 refine sorted_setI R (I.ok.hd hc) fun s' p out c ns k g o hp hg hi hs hm hl=>?_
 have hlen:(ns.map V.int).length≤sizeLine:=by
  have:scanBound=4096:=rfl
  rw [waa,sizeLine_eq]; omega
 have hno:H p=none:=I.hok.fresh hp
 have J:Inv X pins σ (upd H p (.lst (ns.map V.int))) { s with heap:=s'.heap,gens:=s'.gens,drawn:=s'.drawn,toks:=s'.toks }:=
  I.call (ch:=[]) (Un.laid k hp hno) (I.hok.laid k hp ⟨hlen,out.toList,c,vals_of_ints hi,hg⟩) (by rw [g]; exact I.bare) (fun _ z=>nomatch z)
 rw [shared_eta o]
 exact ⟨.ref p,_,J,rfl,q ns p hs hm hno⟩
def rLenSX (P:Program) (w:World):List V→Hp→VK→Prop:=fun vs H Q=>(∃ (a:Addr) (S:Str→Bool) (n:Nat),vs=[V.ref a]∧H a=some (SetX P w (kiStr P w) a S n) ∧
  ∀ L:List Str,L.Nodup→(∀ k,k∈L↔S k=true)→Q (.int (L.length:Nat)) H) ∨
 ∃ (a:Addr) (S:Int→Bool) (n:Nat),vs=[V.ref a]∧H a=some (SetX P w (kiInt P w) a S n)∧∀ L:List Int,L.Nodup→(∀ k,k∈L↔S k=true)→Q (.int (L.length:Nat)) H
theorem cr_lenSX:CallR X (.builtin "len") (rLenSX X.prog X.w):=by
 intro pins s σ H vs us Q I r h
 rcases h with ⟨a,S,n,rfl,ha,q⟩ | ⟨a,S,n,rfl,ha,q⟩
 ·obtain ⟨o,es,ep,t,ho,hex,hd,g,nd,hm,hb,hf,hn,hr,hl⟩:=setX_get I ha
  rw [Vals.ref1 r]
  refine call_len_set ho hex hd hf (by have:scanBound=4096:=rfl; omega) ⟨.int (es.size:Nat),H,I.tok _,⟨_,rfl⟩,?_⟩
  have z:=q _ nd fun k=>(hm k).symm
  rw [waa,wap] at z
  exact z
 ·obtain ⟨o,es,ep,t,ho,hex,hd,g,nd,hm,hb,hf,hn,hr,hl⟩:=setX_get I ha
  rw [Vals.ref1 r]
  refine call_len_set ho hex hd hf (by have:scanBound=4096:=rfl; omega) ⟨.int (es.size:Nat),H,I.tok _,⟨_,rfl⟩,?_⟩
  have z:=q _ nd fun k=>(hm k).symm
  rw [waa,wap] at z
  exact z
end
end SG
namespace TT
open PySem PySem.Spec PyProof.Rows L2
variable [TabI]
section
variable {X:Cx} {c:Ct} {G:Hp} {μ:List Addr} {ρ:Ev} {m:Mem} {σ:L2.St} {H:Hp}
theorem qay {α:Type} [DecidableEq α]:∀ (l:List α),(dedupL l).Nodup∧∀ k,k∈dedupL l↔k∈l
 | []=>⟨wbw,fun k=>Iff.rfl⟩
 | x::l=>by
  obtain ⟨h1,h2⟩:=qay l
  unfold dedupL
  by_cases hx:x∈l
  ·rw [if_pos hx]
   refine ⟨h1,fun k=>(h2 k).trans ⟨fun q=>waJ _ q,fun q=>?_⟩⟩
   rcases wat.mp q with q | q
   ·subst q; exact hx
   ·exact q
  ·rw [if_neg hx]
   refine ⟨wa2.mpr ⟨fun q=>hx ((h2 x).mp q),h1⟩,fun k=>?_⟩
   rw [wat,wat,h2]
theorem qdw {α:Type} [DecidableEq α] {l l' : List α} (h:l.Nodup) (h' : l'.Nodup) (e:∀ k,k∈l↔k∈l'):l.length=l'.length:=
 ((wbf h h').mpr e).length_eq
theorem qcO {x:D} {u:V} {xs:List D} (M:MemOk c G μ m H) (r:Rep c.K c.mg c.xo G μ x u) (e:dItems (view m x)=some xs):∃ sh vs,RepL c.K c.mg c.xo G μ xs vs∧ZG.Src c.K H sh u vs:=by
 generalize e1:view m x=y at e
 cases y with
 | lst ys=>
  cases e
  obtain ⟨a,vs,rfl,ha,ra⟩:=qbm M r e1
  exact ⟨.l,vs,ra,.l ha⟩
 | tup ys=>
  cases e
  obtain ⟨a,vs,rfl,ha,ra⟩:=qbT M r e1
  exact ⟨.t,vs,ra,.t ha⟩
 | str s=>
  cases e
  obtain ⟨rfl,ho⟩:=qbE r e1
  exact ⟨.s,_,RepL.signs (qee ho),.s s⟩
 | _=>cases e
theorem qeq {ns ks:List Str} (h:sortedS ns=true) (nd:ns.Nodup) (e:∀ k,k∈ns↔k∈ks):ns=(dedupL ks).mergeSort leS:=
 qgH ((wbf nd (qay ks).1).mpr fun k=>(e k).trans ((qay ks).2 k).symm) (qf8 h)
theorem qdZ {ns ks:List Int} (h:ns.Pairwise (· < ·)) (e:∀ k,k∈ns↔k∈ks):ns=(dedupL ks).mergeSort fun a b=>decide (a≤b):=by
 have nd:ns.Nodup:=h.imp fun q=>by omega
 have p:ns.Perm (dedupL ks):=(wbf nd (qay ks).1).mpr fun k=>(e k).trans ((qay ks).2 k).symm
 refine List.Perm.eq_of_pairwise (le:=fun a b:Int=>a≤b) (fun a b _ _ h1 h2=>Int.le_antisymm h1 h2) (h.imp fun q=>Int.le_of_lt q) ?_ (p.trans (wbi _ _).symm)
 have z:=wbj (le:=fun a b:Int=>decide (a≤b)) (fun a b c h1 h2=>by simp only [decide_eq_true_eq] at *; omega) (fun a b=>by simp only [wa5,decide_eq_true_eq]; omega) (dedupL ks)
 exact z.imp fun q=>by simpa using q
theorem qg7 {a:Expr} {fa:E} {k:Nat} {p p2 q pos:Pos} (F:Fit X c k) (hm:X.mg "len" = none) (hm2:X.mg "set" = none) (ha:PE X a (rE c fa)) (hg:Gl X "len":=by rfl) (hg2:Gl X "set":=by rfl)
  (na:starEach [a] X.env=(false,eval a X.env)::starEach [] X.env:=by rfl)
  (nb:starEach [.Call (.Name "set" p2) [a] [] q] X.env=(false,eval (.Call (.Name "set" p2) [a] [] q) X.env)::starEach [] X.env:=by rfl) (hpl:(backTo pos (starEach [] X.env)).any (·.1)=false:=by rfl) (hpl2:(backTo q (starEach [] X.env)).any (·.1)=false:=by rfl) :
  PE X (.Call (.Name "len" p) [.Call (.Name "set" p2) [a] [] q] [] pos) (rE c (eUn dLenSet fa)):=by
 refine (pe_callB (p:=p) (pos:=pos) SG.cr_lenSX hg hm PySem.boot_len (pa_cons (pe_callTy (p:=p2) (pos:=q) ((SG.cr_setS F.calm).or (SG.cr_setI F.calm)) hg2 hm2 boot_set (pa_cons ha pa_nil na) (by decide) (by decide) na hpl2) pa_nil nb) (by decide) (by decide) nb hpl).imp ?_
 rintro σ H Q ⟨ρ,m,G,μ,S,h⟩
 refine qaq S h fun x m1 u H1 G1 μ1 S1 R1 g1 h1=>?_
 obtain ⟨d,e,h1⟩:=PostE.of h1
 have R2:CallR X (.type "set") _:=(SG.cr_setS F.calm).or (SG.cr_setI F.calm)
 unfold dLenSet at e
 split at e
 ·rename_i ks hk
  split at e
  ·rename_i hl
   cases e
   obtain ⟨xs,k1,k2⟩:=waB.mp hk
   obtain ⟨sh,vs,ra,q⟩:=qcO S1.mem R1 k1
   obtain ⟨h2,_⟩:=qbU k2 ra
   subst h2
   refine .inl ⟨u,ks,rfl,⟨sh,by rw [← F.K]; exact q⟩,by have:scanBound=4096:=rfl; omega,fun p n hp=>.inl ⟨p,_,n,rfl,upd_same,fun L nd hL=>?_⟩⟩
   obtain ⟨S2,g2⟩:=S1.alloc hp (SG.SetX X.prog X.w (SG.kiStr X.prog X.w) p (fun j=>decide (j∈ks)) n)
   have z:L.length=(dedupL ks).length:=qdw nd (qay ks).1 fun k=>by rw [hL,(qay ks).2]; simp
   rw [z]
   exact h1 _ _ _ _ S2 (.int _) g2
  ·cases e
 ·split at e
  ·rename_i ks hk
   split at e
   ·rename_i hl
    cases e
    obtain ⟨xs,k1,k2⟩:=waB.mp hk
    obtain ⟨sh,vs,ra,q⟩:=qcO S1.mem R1 k1
    have h2:=qcZ k2 ra
    subst h2
    refine .inr ⟨u,ks,rfl,⟨sh,by rw [← F.K]; exact q⟩,by have:scanBound=4096:=rfl; omega,fun p n hp=>.inr ⟨p,_,n,rfl,upd_same,fun L nd hL=>?_⟩⟩
    obtain ⟨S2,g2⟩:=S1.alloc hp (SG.SetX X.prog X.w (SG.kiInt X.prog X.w) p (fun j=>decide (j∈ks)) n)
    have z:L.length=(dedupL ks).length:=qdw nd (qay ks).1 fun k=>by rw [hL,(qay ks).2]; simp
    rw [z]
    exact h1 _ _ _ _ S2 (.int _) g2
   ·cases e
  ·cases e
theorem qgc {M:Bool} {a:Expr} {fa:E} {k:Nat} {p p2 q pos:Pos} (F:Fit X c k) (hm:X.mg "sorted" = none) (hm2:X.mg "set" = none) (ha:PE X a (rE c fa)) (hg:Gl X "sorted":=by rfl) (hg2:Gl X "set":=by rfl)
  (na:starEach [a] X.env=(false,eval a X.env)::starEach [] X.env:=by rfl)
  (nb:starEach [.Call (.Name "set" p2) [a] [] q] X.env=(false,eval (.Call (.Name "set" p2) [a] [] q) X.env)::starEach [] X.env:=by rfl) (hpl:(backTo pos (starEach [] X.env)).any (·.1)=false:=by rfl) (hpl2:(backTo q (starEach [] X.env)).any (·.1)=false:=by rfl) :
  PE X (.Call (.Name "sorted" p) [.Call (.Name "set" p2) [a] [] q] [] pos) (rE c (eSortSet M fa)):=by
 refine (pe_callB (p:=p) (pos:=pos) ((SG.cr_sortSS F.calm).or (SG.cr_sortSI F.calm)) hg hm (by decide +kernel) (pa_cons (pe_callTy (p:=p2) (pos:=q) ((SG.cr_setS F.calm).or (SG.cr_setI F.calm)) hg2 hm2 boot_set (pa_cons ha pa_nil na) (by decide) (by decide) na hpl2) pa_nil nb) (by decide) (by decide) nb hpl).imp ?_
 rintro σ H Q ⟨ρ,m,G,μ,S,h⟩
 refine qaq S h fun x m1 u H1 G1 μ1 S1 R1 g1 h1=>?_
 cases e:dSortSet (view m1 x) with
 | none=>rw [e] at h1; exact h1.elim
 | some ys=>
 rw [e] at h1
 have h1:PostE c G1 μ1 _ σ Q (mkL M ys m1):=h1
 unfold dSortSet at e
 split at e
 ·rename_i ks hk
  split at e
  ·rename_i hl
   cases e
   obtain ⟨xs,k1,k2⟩:=waB.mp hk
   obtain ⟨sh,vs,ra,q⟩:=qcO S1.mem R1 k1
   obtain ⟨h2,ho⟩:=qbU k2 ra
   subst h2
   refine .inl ⟨u,ks,rfl,⟨sh,by rw [← F.K]; exact q⟩,by have:scanBound=4096:=rfl; omega,fun p n hp=>.inl ⟨p,_,n,rfl,upd_same,fun L p2 hs nd hL hp2=>?_⟩⟩
   obtain ⟨S2,g2⟩:=S1.alloc hp (SG.SetX X.prog X.w (SG.kiStr X.prog X.w) p (fun j=>decide (j∈ks)) n)
   have z:L=(dedupL ks).mergeSort leS:=qeq hs nd fun k=>by rw [hL]; simp
   subst z
   refine S2.newL (d:=.non) (m':=m1) hp2 (RepL.strs fun s hs=>ho s ?_) (h1.weak g2)
   exact ((qay ks).2 s).mp ((wbi _ _).mem_iff.mp hs)
  ·cases e
 ·split at e
  ·rename_i ks hk
   split at e
   ·rename_i hl
    cases e
    obtain ⟨xs,k1,k2⟩:=waB.mp hk
    obtain ⟨sh,vs,ra,q⟩:=qcO S1.mem R1 k1
    have h2:=qcZ k2 ra
    subst h2
    refine .inr ⟨u,ks,rfl,⟨sh,by rw [← F.K]; exact q⟩,by have:scanBound=4096:=rfl; omega,fun p n hp=>.inr ⟨p,_,n,rfl,upd_same,fun L p2 hs hL hp2=>?_⟩⟩
    obtain ⟨S2,g2⟩:=S1.alloc hp (SG.SetX X.prog X.w (SG.kiInt X.prog X.w) p (fun j=>decide (j∈ks)) n)
    have z:L=(dedupL ks).mergeSort fun a b=>decide (a≤b):=qdZ hs fun k=>by rw [hL]; simp
    subst z
    exact S2.newL (d:=.non) (m':=m1) hp2 (RepL.map D.int V.int (fun x=>.int x) _) (h1.weak g2)
   ·cases e
  ·cases e
end
end TT

set_option maxHeartbeats 2000000
namespace TT
open PySem PySem.Spec PyProof.Rows L2
variable [TabI]
section
variable {X:Cx} {c:Ct} {G:Hp} {μ:List Addr} {ρ:Ev} {m:Mem} {σ:L2.St} {H:Hp}
end
end TT

set_option maxHeartbeats 2000000
namespace TT
open PySem PySem.Spec PyProof.Rows L2
variable [TabI]
section
variable {X:Cx} {c:Ct} {G:Hp} {μ:List Addr} {ρ:Ev} {m:Mem} {σ:L2.St} {H:Hp}
abbrev rIdxS:V→List V→Hp→VK→Prop:=fun x xs H Q=>∃ (a b:Str) (i:Nat) (r:List Nat),x = .str a∧xs=[.str b]∧Builtin.Str.occurrences a b 0 a.length 1=i::r∧Q (.int (i:Nat)) H
end
section
variable {K:PySem.W.Frag} {mg:Str→Option Value} {c d:Str} {b:Bool} {C D:Addr}
theorem qiu:XTok K mg []:=fun p h=>nomatch h
theorem qaj {r:XTab} (h:∃ C v,XP K mg c d b C v) (x:∃ C,XG K mg c C) (t:XTok K mg r):XTok K mg (((c,d),b)::r):=fun p hp=>by
 rcases wat.mp hp with rfl | hp
 ·exact ⟨h,x⟩
 ·exact t p hp
theorem qaR (g:mg c=some (.ref C)) (h:mg d=some (.ref D)) (hd:d≠("ValueError" : Str)) (hi:PySem.W.isClsIn K D=true) (ht:PySem.W.typeIn K (.ref D)=some (.type "type")) (hs:PySem.W.subIn K (.ref D) (.type "BaseException")=some true) (hr:PySem.W.subIn K (.ref D) (.ref D)=some true) (p:PySem.W.subIn K (.ref C) (.ref D)=some b):∃ C v,XP K mg c d b C v:=by
 refine ⟨C,.ref D,g,.inl ⟨h,hd⟩,?_,hs,fun e=>?_⟩
 ·show (if ((PySem.W.clsIn K D).isSome && PySem.W.typeIn K (.ref D) == some (.type "type"))=true then PySem.W.subIn K (.ref C) (.ref D) else none)=some b
  have hi:(PySem.W.clsIn K D).isSome=true:=hi
  rw [hi,ht,if_pos (by simp),p]
 ·have e:=eq_of_beq e
  cases e
  exact (Option.some.inj (hr.symm.trans p)).symm
theorem qg8 (g:mg c=some (.ref C)) (h:mg "ValueError" = none) (hs:PySem.W.subIn K (.type "ValueError") (.type "BaseException")=some true) (p:PySem.W.subIn K (.ref C) (.type "ValueError")=some b):∃ C v,XP K mg c "ValueError" b C v:=by
 refine ⟨C,.type "ValueError",g,.inr ⟨rfl,h,rfl⟩,?_,hs,fun e=>?_⟩
 ·show (if PySem.W.kitMeta "ValueError" = true then PySem.W.subIn K (.ref C) (.type "ValueError") else none)=some b
  rw [if_pos (by decide +kernel),p]
 ·cases eq_of_beq e
end
end TT

set_option maxHeartbeats 2000000
namespace PySem
open Sem (wp)
open Builtin RT
abbrev zrT (h:Heap) (o1:Obj) (i2:Addr):Heap:=(h.push o1).push { cls:=.type "tuple",data:=.seq #[.ref h.objs.size,.ref i2] }
abbrev zrO (h:Heap) (o1:Obj) (i2:Addr):Heap:=(zrT h o1 i2).push { cls:=.type "tuple",data:=.seq #[.none,.none] }
abbrev zrZ (h:Heap) (o1:Obj) (i2:Addr):Heap:=(zrO h o1 i2).push { cls:=.type "zip",data:=.fields #[.none,.bool false,.bool false,.ref (h.push o1).objs.size,.ref (zrT h o1 i2).objs.size] }
section
variable {prog:Program} {w:World} {A:Around} {E:Value→Shared→Prop} {s:Shared}
end
end PySem
namespace ZG
open PySem PySem.Spec PyProof.Rows L2
end ZG
namespace TT
open PySem PySem.Spec PyProof.Rows L2
variable [TabI]
section
variable {X:Cx} {c:Ct} {G:Hp} {μ:List Addr} {ρ:Ev} {m:Mem} {σ:L2.St} {H:Hp}
end
end TT

set_option maxHeartbeats 2000000
namespace L2
open PySem PySem.Spec PyProof.Rows
section
variable {X:Cx} {e:Expr} {es:List Expr} {ta:TA} {p1 p2 pos:Pos}
end
def spKeep (K:PySem.W.Frag) (f:Str):Sp:=fun vs H Q E=>∃ (a C:Addr) (y:V),vs=[.ref a,y]∧OexC K C∧PySem.W.findIn K (.ref C) f=some none∧H a=some (exo a C none) ∧
 ∀ dx,H dx=none→dx≠a→Q .non (upd (upd H dx (exd dx [(f,y)])) a (exo a C (some dx)))
end L2
namespace TT
open PySem PySem.Spec PyProof.Rows L2
variable [TabI]
structure XI (P:Program) (w:World) (K:PySem.W.Frag) (mg:Str→Option Value) (base:Heap) (c f:Str) (C:Addr):Prop where
 g:mg c=some (.ref C)
 o:OexC K C
 no:PySem.W.findIn K (.ref C) f=some none
 fn:∃ (fI:Addr) (fd:FuncData) (ps:List Str),PySem.W.findIn K (.ref C) "__init__" = some (some (.ref fI))∧PySem.W.typeIn K (.ref fI)=some (.type "function")∧FnOk P w K mg base CX0 1 fI fd ps (spKeep K f)∧Binds K fd ps []
section
variable {X:Cx} {c:Ct} {G:Hp} {μ:List Addr} {ρ:Ev} {m:Mem} {σ:L2.St} {H:Hp}
end
end TT

set_option maxHeartbeats 2000000
namespace TT
open PySem PySem.Spec PyProof.Rows L2
variable [TabI]
section
variable {X:Cx} {c:Ct} {G:Hp} {μ:List Addr} {ρ:Ev} {m:Mem} {σ:L2.St} {H:Hp}
end
end TT

set_option maxHeartbeats 2000000
namespace L2
open PySem PySem.Spec PyProof.Rows
section
variable {X:Cx} {CX:CXT} {k:Nat} {f C:Addr} {fd:FuncData} {ps:List Str} {sp:Sp} {E:St→XK} {x m:Str} {p pos apos:Pos} {e o:Expr} {es:List Expr} {ta:TE} {t:TA}
def tMethSD (C:Addr) (m:Str) (sp:Sp) (E:St→XK) (ta:TE) (t:TA):TE:=fun σ H Q=>ta σ H fun x H1=>∃ a dx fs,x = .ref a∧H1 a=some (.ins C dx fs)∧fs.lookup m=none∧t σ H1 fun vs H2=>sp (x::vs) H2 Q (E σ)
def tMakeSD (C:Addr) (sp:Sp) (E:St→XK) (t:TA):TE:=fun σ H Q=>t σ H fun vs H1=>∀ x dx,H1 x=none→H1 dx=none→dx≠x→sp (.ref x::vs) (upd (upd H1 dx (.own x)) x (.ins C dx [])) (fun v H2=>v = .non∧Q (.ref x) H2) (E σ)
theorem run_fnSD0 {pins:List (Addr × Obj)} {σ:St} {H:Hp} {s:Shared} {Q:VK} {us:List Value} {vs:List V} (F:FnOk X.prog X.w X.K X.mg X.base CX k f fd ps sp) (hr:Room k X.A) (hb:Binds X.K fd ps []) (hx:PassesAt CX X σ (E σ))
  (I:Inv X pins σ H s) (r:Vals vs us) (h:sp vs H Q (E σ)):wpAny (model X.prog X.w) X.A (call (.ref f) us) (EP X pins σ Q) X.xe s:=
 run_fnSD F hr hb .nil hx I r (by rw [wa0]; exact h)
theorem pe_methSD0 {pl:Sem Bool} (he:PE X o ta) (c:Cls X.K C) (hm:Meth X.K C m f) (F:FnOk X.prog X.w X.K X.mg X.base CX k f fd ps sp) (hr:Room k X.A) (hb:Binds X.K fd ps []) (hx:∀ σ,PassesAt CX X σ (E σ))
  (ht:eval (.Call (.Attribute o m apos) [] [] pos) X.env=(do
   let ov ← eval o X.env
   standAt apos.atName
   let (f,first) ← holding [ov] (getMethod ov m pl)
   callWith pos f first (backTo pos (starEach [] X.env)) (backToKw pos (keywordEach [] X.env))):=by rfl) :
  PE X (.Call (.Attribute o m apos) [] [] pos) (tMethSD C m sp E ta tNil):=by
 refine ⟨fun pins s σ H Q I h=>?_⟩
 refine PySem.W.methodCall_KW (pl:=pl) (thn (he.run pins s σ H _ I h) fun u s1 ⟨x,H1,I1,rx,a,dx,fs,ex,ea,l,q⟩=>?_) ht
 subst ex
 obtain rfl:u=Value.ref a:=rx
 refine getmeth_ok I1 ea c hm l ?_
 exact PySem.W.callWith_K0 (first:=[.ref a]) I1.kIn hm.kp (run_fnSD0 (us:=[.ref a]) (vs:=[.ref a]) F hr hb (hx σ) I1 (.cons rfl .nil) q)
theorem run_makeSD {pins:List (Addr × Obj)} {σ:St} {H:Hp} {s:Shared} {Q:VK} {us:List Value} {vs:List V} (M:Mk X.K C f) (F:FnOk X.prog X.w X.K X.mg X.base CX k f fd ps sp) (hr:Room (k+1) X.A) (hb:Binds X.K fd ps [])
  (hx:PassesAt CX X σ (E σ)) (I:Inv X pins σ H s) (r:Vals vs us)
  (h:∀ x dx,H x=none→H dx=none→dx≠x→sp (.ref x::vs) (upd (upd H dx (.own x)) x (.ins C dx [])) (fun v H2=>v = .non∧Q (.ref x) H2) (E σ)) :
  wpAny (model X.prog X.w) X.A (call (.ref C) us) (EP X pins σ Q) X.xe s:=by
 have hq:=h (s.heap.objs.size+1) s.heap.objs.size (I.hok.fresh (Nat.le_succ _)) (I.hok.fresh (waL _)) (wbt (Nat.lt_succ_self _))
 have I2:=Inv.made (C:=C) I
 have r2:Vals (V.ref (s.heap.objs.size+1)::vs) (Value.ref (s.heap.objs.size+1)::us):=.cons rfl r
 have hl:(Value.ref (s.heap.objs.size+1)::us++[]).length=ps.length:=by
  have e:=r2.length
  rw [F.len _ _ _ _ hq] at e
  rw [wa0]
  exact e.symm
 refine wpAny_call (make_map (f:=f) I.kIn M.makes M.init (beq_iff_eq.mp M.fn) (codeAny_mono (F.run _ X.stack _ _ ⟨Value.ref (s.heap.objs.size+1)::us,[]⟩ (Value.ref (s.heap.objs.size+1)::us++[]) _ _ (E σ) (hr.make C us [])
  (I2.env0.make C us []) (hb _ (Value.ref (s.heap.objs.size+1)::us) I2.kIn hl) (by rw [wa0]; exact r2) hq) fun r s' hq'=>?_))
 cases r with
 | error e=>exact hx pins _ _ e s' I2 hq'
 | ok fl=>
  cases fl with
  | ret u=>
   obtain ⟨v,H',I3,rv,ev,q3⟩:=I2.after hq'
   subst ev
   exact ⟨rv,⟨V.ref (s.heap.objs.size+1),H',I3,rfl,q3⟩⟩
  | next=>exact False.elim hq'
  | brk=>exact False.elim hq'
  | cont=>exact False.elim hq'
theorem pe_makeSD (M:Mk X.K C f) (F:FnOk X.prog X.w X.K X.mg X.base CX k f fd ps sp) (hr:Room (k+1) X.A) (hg:Gl X x) (hm:X.mg x=some (.ref C)) (hb:Binds X.K fd ps []) (hx:∀ σ,PassesAt CX X σ (E σ))
  (ha:PA X (e::es) t) (hdb:(x == ("__debug__" : Str))=false:=by decide) (he:starEach (e::es) X.env=(false,eval e X.env)::starEach es X.env:=by rfl) (hpl:(backTo pos (starEach es X.env)).any (·.1)=false:=by rfl) :
  PE X (.Call (.Name x p) (e::es) [] pos) (tMakeSD C sp E t):=by
 refine ⟨fun pins s σ H Q I h=>?_⟩
 refine wpAny_Call_Name_kw (ld_glob I hg hm ?_ hdb)
 refine PySem.W.callWith_K (h₀:=X.base) I.ok.mod.kin M.kp (thn (ha.run pos pins s σ H _ I h) fun us s1 ⟨vs,H1,I1,r,q⟩=>⟨I1.kIn,?_⟩) he hpl
 exact run_makeSD M F hr hb (hx σ) I1 r q
end
end L2
namespace TT
open PySem PySem.Spec PyProof.Rows L2
variable [TabI]
def FldOk (K:PySem.W.Frag) (mg:Str→Option Value) (c f:Str):Prop:=∃ C,mg c=some (.ref C)∧Cls K C∧NoAttr K C f
def MethOk (P:Program) (w:World) (K:PySem.W.Frag) (mg:Str→Option Value) (base:Heap) (k:Nat) (c mn:Str) (n:Nat) (f:F):Prop:=
 ∃ C a fd ps,mg c=some (.ref C)∧Cls K C∧Meth K C mn a∧FnOk P w K mg base (L2.CX P w) k a fd ps (spD K mg w n f)∧Binds K fd ps []
def MkOk (P:Program) (w:World) (K:PySem.W.Frag) (mg:Str→Option Value) (base:Heap) (k:Nat) (c:Str) (n:Nat) (f:F):Prop:=
 ∃ C a fd ps,mg c=some (.ref C)∧Mk K C a∧FnOk P w K mg base (L2.CX P w) k a fd ps (spD K mg w n f)∧Binds K fd ps []
section
variable {K:PySem.W.Frag} {mg:Str→Option Value} {xo:XO} {G:Hp} {μ:List Addr}
theorem RepF.lookup {f:Str} {d:D}:∀ {fs:List (Str × D)} {fv:List (Str × V)},RepF K mg xo G μ fs fv→fs.lookup f=some d→∃ v,fv.lookup f=some v∧Rep K mg xo G μ d v
 | _,_,.nil,h=>by cases h
 | _,_,.cons (f:=g) r t,h=>by
  rw [wa7] at h ⊢
  by_cases hg:(f == g)=true
  ·rw [hg] at h ⊢
   cases h
   exact ⟨_,rfl,r⟩
  ·have hg:(f == g)=false:=by simpa using hg
   rw [hg] at h ⊢
   exact t.lookup h
theorem RepF.lookupN {f:Str}:∀ {fs:List (Str × D)} {fv:List (Str × V)},RepF K mg xo G μ fs fv→(fs.lookup f).isNone=true→fv.lookup f=none
 | _,_,.nil,h=>rfl
 | _,_,.cons (f:=g) r t,h=>by
  rw [wa7] at h ⊢
  by_cases hg:(f == g)=true
  ·rw [hg] at h
   cases h
  ·have hg:(f == g)=false:=by simpa using hg
   rw [hg] at h ⊢
   exact t.lookupN h
theorem RepF.put {f:Str} {d:D} {v:V} (r:Rep K mg xo G μ d v):∀ {fs:List (Str × D)} {fv:List (Str × V)},RepF K mg xo G μ fs fv→RepF K mg xo G μ (putFD f d fs) (putF f v fv)
 | _,_,.nil=>.cons r .nil
 | _,_,.cons (f:=g) (d:=d') (v:=v') (fs:=fs) (fv:=fv) q t=>by
  show RepF K mg xo G μ (if g=f then (g,d)::fs else (g,d')::putFD f d fs) (if g=f then (g,v)::fv else (g,v')::putF f v fv)
  split
  ·exact .cons r t
  ·exact .cons q (t.put r)
theorem RepF.length:∀ {fs:List (Str × D)} {fv:List (Str × V)},RepF K mg xo G μ fs fv→fs.length=fv.length
 | _,_,.nil=>rfl
 | _,_,.cons _ t=>by rw [wab,wab,t.length]
end
section
variable {X:Cx} {c:Ct} {G G' : Hp} {μ μ' : List Addr} {ρ:Ev} {m:Mem} {σ:L2.St} {H:Hp}
theorem qjm {cn:Str} {x:D} {u:V} {fs:List (Str × D)} (M:MemOk c G μ m H) (r:Rep c.K c.mg c.xo G μ x u) (h:objAt cn x m=some fs):∃ a C dx fv,u = .ref a∧c.mg cn=some (.ref C)∧H a=some (.ins C dx fv)∧RepF c.K c.mg c.xo G μ fs fv:=by
 cases x with
 | obj c' fs'=>
  have h:(if c' = cn then some fs' else none)=some fs:=h
  split at h
  ·rename_i e
   cases h
   subst e
   cases r with
   | obj h1 h2 h3 t=>exact ⟨_,_,_,_,rfl,h1,M.gh _ _ h2,t⟩
  ·cases h
 | loc n=>
  cases r with
  | loc hμ=>
   rename_i a
   cases hm:m[n]? with
   | none=>simp [objAt,hm] at h
   | some k=>
    cases k with
    | obj c' fs'=>
     have h:(if c' = cn then some fs' else none)=some fs:=by simpa [objAt,hm] using h
     split at h
     ·rename_i e
      cases h
      subst e
      obtain ⟨_,_,C,dx,fv,h1,h2,_,_,_,t⟩:=M.cell n a _ hμ hm
      exact ⟨a,C,dx,fv,rfl,h1,h2,t⟩
     ·cases h
    | _=>simp [objAt,hm] at h
 | _=>cases h
theorem qjn {cn f:Str} {e:Expr} {fe:E} {pos:Pos} {k:Nat} (Y:FldOk X.K X.mg cn f) (F:Fit0 X c k) (he:PE X e (rE c fe)) (hb:attributeBase e f X.env (eval e X.env)=eval e X.env:=by rfl):PE X (.Attribute e f pos) (rE c (eFld cn f fe)):=by
 refine (pe_fld he hb).imp ?_
 rintro σ H Q ⟨ρ,m,G,μ,S,h⟩
 refine qaq S h fun x m1 u H1 G1 μ1 S1 R1 g1 h1=>?_
 obtain ⟨d,e,h1⟩:=PostE.of h1
 cases e1:objAt cn x m1 with
 | none=>rw [e1] at e; cases e
 | some fs=>
  rw [e1] at e
  have e:fs.lookup f=some d:=e
  obtain ⟨a,C,dx,fv,rfl,hC,ha,rf⟩:=qjm S1.mem R1 e1
  obtain ⟨v,hv,r⟩:=rf.lookup e
  obtain ⟨C2,hC2,y1,y2⟩:=Y
  rw [F.mg] at hC
  have e3:C2=C:=Value.ref.inj (Option.some.inj (hC2.symm.trans hC))
  subst e3
  exact ⟨a,C2,dx,fv,v,rfl,ha,y1,y2,hv,h1 _ _ _ _ S1 r Gr.refl⟩
theorem MemOk.setO (h:MemOk c G μ m H) {n:Nat} {a C dx:Addr} {cn:Str} {fs fs' : List (Str × D)} {fv fv' : List (Str × V)} (hμ:μ[n]? = some a) (hm:m[n]? = some (.obj cn fs)) (hH:H a=some (.ins C dx fv)) (r:RepF c.K c.mg c.xo G μ fs' fv'):MemOk c G μ (m.set n (.obj cn fs')) (upd H a (.ins C dx fv')):=by
 obtain ⟨ga,ba,C',dx',fv0,hC,ha,hd,gd,bd,_⟩:=h.cell n a _ hμ hm
 rw [hH] at ha
 cases ha
 have nG:∀ b o,G b=some o→b≠a:=fun b o e z=>by rw [z,ga] at e; cases e
 have nB:∀ b o,c.B b=some o→b≠a:=fun b o e z=>by rw [z,ba] at e; cases e
 have nd:dx≠a:=fun z=>by rw [z,hH] at hd; cases hd
 refine ⟨fun b o e=>by rw [upd_ne (nG b o e)]; exact h.gh b o e,fun b o e=>by rw [upd_ne (nB b o e)]; exact h.bh b o e,h.g0,h.gb,by simp [h.ml],h.nd,fun i b k e1 e2=>?_,fun b hb=>?_,h.mb,fun p hp=>have T:=h.tb p hp; T.up (Same.refl _) T.g T.b T.m (T.at_ hH (fun ps z=>by cases z))⟩
 ·by_cases hi:n=i
  ·subst hi
   have hl:n < m.length:=(waj.mp hm).1
   rw [waz hl] at e2
   obtain rfl:Cell.obj cn fs' = k:=by simpa using e2
   rw [hμ] at e1
   obtain rfl:a=b:=by simpa using e1
   exact ⟨ga,ba,C,dx,fv',hC,upd_same,by rw [upd_ne nd]; exact hd,gd,bd,r⟩
  ·rw [waF hi] at e2
   have nb:b≠a:=fun z=>hi (qdK h.nd hμ (z ▸ e1))
   refine CellOk.mono Gr.refl (fun q=>q) (fun _ _ q=>q) (fun x o hw e=>?_) (h.cell i b k e1 e2)
   have nx:x≠a:=by
    rcases hw with rfl | rfl
    ·exact nb
    ·intro z
     rw [z,hH] at e
     cases e
   rw [upd_ne nx]
   exact e
 ·by_cases hq:b=a
  ·subst hq
   rw [upd_same]
   simp
  ·rw [upd_ne hq]
   exact h.used b hb
theorem qg9 {cn f:Str} {o v:Expr} {fo fv:E} {pos pos' : Pos} {k:Nat} (Y:FldOk X.K X.mg cn f) (F:Fit0 X c k) (ho:PE X o (rE c fo)) (hv:PE X v (rE c fv)) (hs:swapsWith v (some (.Attribute o f pos')) pos.line X.env=pure false:=by rfl) :
  PS X (.Assign [.Attribute o f pos'] v pos) (rS c (sSetF cn f fv fo)):=by
 refine (ps_fld ho hv hs).imp ?_
 rintro D σ H ⟨ρ,m,G,μ,S,h⟩
 refine qb5 S h fun y m1 w H1 G1 μ1 S1 R1 g1 h1=>?_
 refine qb5 S1 h1 fun x m2 u H2 G2 μ2 S2 R2 g2 h2=>?_
 cases x with
 | loc n=>
  cases R2 with
  | loc hμ=>
   rename_i a
   cases hm:m2[n]? with
   | none=>simp only [setFAt,hm] at h2; exact h2.elim
   | some ce=>
    cases ce with
    | obj c' fs=>
     simp only [setFAt,hm] at h2
     split at h2
     ·rename_i hc
      obtain ⟨rfl,hl⟩:=hc
      obtain ⟨_,_,C,dx,fw,hC,ha,_,_,_,rf⟩:=S2.mem.cell n a _ hμ hm
      obtain ⟨C2,hC2,y1,y2⟩:=Y
      rw [F.mg] at hC
      have e3:C2=C:=Value.ref.inj (Option.some.inj (hC2.symm.trans hC))
      subst e3
      have rf:RepF c.K c.mg c.xo G2 μ2 fs fw:=rf
      exact ⟨a,C2,dx,fw,rfl,ha,y1,y2,by rw [← rf.length]; exact hl,h2 _ _ _ _ (S2.gr (S2.mem.setO hμ hm ha (rf.put (R1.gr g2))) Gr.refl) Gr.refl⟩
     ·exact h2.elim
    | _=>simp only [setFAt,hm] at h2; exact h2.elim
 | _=>exact h2.elim
theorem qiv {M:Bool} {n:Nat} {f:F} {ds:List D} {vs:List V} {Q:VK} (hx:c.xo=none) (S1:Sim c G μ ρ m σ H) (R1:RepL c.K c.mg c.xo G μ ds vs) (hl:ds.length=n) (h1:PostE c G μ ρ σ Q (callF M f ds m)):spD c.K c.mg c.w n f vs H Q (WE c.W σ):=by
 unfold callF at h1
 split at h1
 ·rename_i hd
  have M0:MemOk ⟨c.K,c.mg,c.w,none,hid H,G,fun _ _ _ _=>False⟩ G [] [] H:=S1.mem.enter
  refine ⟨by rw [← R1.length]; exact hl,ds,[],hid H,G,[],M0,(hx ▸ R1).off hd,?_⟩
  cases ef:f ds [] with
  | bad=>rw [ef] at h1; exact h1.elim
  | exc e m'=>
   rw [ef] at h1
   intro cc dd H' G' μ' M' g' x'
   obtain ⟨S2,g2⟩:=S1.after (B':=H) M'
   exact h1 cc dd H' G' μ S2 g2 x'
  | ok d m'=>
   rw [ef] at h1
   intro v H' G' μ' M' g' r'
   obtain ⟨S2,g2⟩:=S1.after (B':=H) M'
   have plain:noLoc d=true∧M=false→PostE c G μ ρ σ Q (.ok d m)→Q v H':=fun hn h1=>h1 v H' G' μ S2 (Rep.mono (Same.refl _) (wai _) (.inl rfl) (r'.off hn.1)) g2
   cases d with
   | loc j=>
    simp only at h1
    split at h1
    ·rename_i xs hj
     split at h1
     ·rename_i hxs
      cases r' with
      | loc hμ=>
       rename_i a
       obtain ⟨ga,ba,ws,ha,rx⟩:=M'.cell j a _ hμ hj
       have ba:H a=none:=qgx (qcJ M'.tb (waf hμ)) ba
       have rx:RepL c.K c.mg none G' μ' xs ws:=rx
       exact S2.adopt ha ga (S1.mem.bh.free ba) (fun z=>S1.mem.used a z ba) (RepL.mono (Same.refl _) (wai _) (.inl rfl) (rx.off hxs)) (h1.weak g2)
     ·exact h1.elim
    ·exact h1.elim
   | _=>
    simp only at h1
    split at h1
    ·rename_i hn
     exact plain hn h1
    ·exact h1.elim
 ·exact h1.elim
theorem qiw {M:Bool} {cn mn:Str} {n:Nat} {f:F} {fo:E} {l:EL} {C:Addr} {k:Nat} (F:Fit X c k) (hx:c.xo=none) (hC:X.mg cn=some (.ref C)):∀ (σ:L2.St) (H:Hp) (Q:VK),rE c (eMethC M cn mn n f fo l) σ H Q→tMethSD C mn (spD c.K c.mg c.w n f) (WE c.W) (rE c fo) (rL c l) σ H Q:=by
 rintro σ H Q ⟨ρ,m,G,μ,S,h⟩
 refine qaq S h fun x m1 u H1 G1 μ1 S1 R1 g1 h1=>?_
 cases e1:objAt cn x m1 with
 | none=>rw [e1] at h1; exact h1.elim
 | some fs=>
  rw [e1] at h1
  simp only at h1
  split at h1
  ·rename_i hn
   obtain ⟨a,C2,dx,fv,rfl,hC2,ha,rf⟩:=qjm S1.mem R1 e1
   rw [F.mg] at hC2
   have e3:C=C2:=Value.ref.inj (Option.some.inj (hC.symm.trans hC2))
   subst e3
   refine ⟨a,dx,fv,rfl,ha,rf.lookupN hn,?_⟩
   refine qa4 S1 h1 fun ds m2 vs H2 G2 μ2 S2 R2 g2 h2=>?_
   split at h2
   ·rename_i hl
    exact qiv hx S2 (.cons (R1.gr g2) R2) hl h2
   ·exact h2.elim
  ·exact h1.elim
theorem qlZ {sp:Sp} {C:Addr} {mn:Str} {fo:E} {W:L2.St→XK}:∀ (σ:L2.St) (H:Hp) (Q:VK),tMethSD C mn sp W (rE c fo) (rL c lNil) σ H Q→tMethSD C mn sp W (rE c fo) tNil σ H Q:=by
 rintro σ H Q ⟨ρ,m,G,μ,S,h⟩
 refine ⟨ρ,m,G,μ,S,?_⟩
 cases e:fo ρ m with
 | bad=>rw [e] at h; exact h
 | exc x m1=>rw [e] at h; exact h
 | ok d m1=>
  rw [e] at h
  intro v H1 G1 μ1 S1 R1 g1
  obtain ⟨a,dx,fv,e1,e2,e3,ρ2,m2,G2,μ2,S2,h2⟩:=h v H1 G1 μ1 S1 R1 g1
  exact ⟨a,dx,fv,e1,e2,e3,h2 [] H1 G2 μ2 S2 .nil Gr.refl⟩
theorem qaM {M:Bool} {cn mn:Str} {n k j:Nat} {f:F} {fo:E} {o:Expr} {apos pos:Pos} {pl:Sem Bool} (F:Fit X c k) (hxo:c.xo=none) (Y:MethOk X.prog X.w X.K X.mg X.base j cn mn n f) (hj:j≤k) (ho:PE X o (rE c fo))
  (ht:eval (.Call (.Attribute o mn apos) [] [] pos) X.env=(do
   let ov ← eval o X.env
   standAt apos.atName
   let (f,first) ← holding [ov] (getMethod ov mn pl)
   callWith pos f first (backTo pos (starEach [] X.env)) (backToKw pos (keywordEach [] X.env))):=by rfl) :
  PE X (.Call (.Attribute o mn apos) [] [] pos) (rE c (eMethC M cn mn n f fo lNil)):=by
 obtain ⟨C,a,fd,ps,h1,h2,h3,h4,h5⟩:=Y
 have h4:FnOk X.prog X.w X.K X.mg X.base (L2.CX X.prog X.w) j a fd ps (spD c.K c.mg c.w n f):=by
  rw [F.K,F.mg,F.w]
  exact h4
 exact (pe_methSD0 (E:=WE c.W) (pl:=pl) ho h2 h3 h4 (F.rm.mono hj) h5 (fun σ=>passAt F.tk σ) ht).imp fun σ H Q h=>qlZ σ H Q (qiw F hxo h1 σ H Q h)
theorem Sim.addG (S:Sim c G μ ρ m σ H) {a:Addr} {o:HO} (hH:H a=some o) (hB:c.B a=none) (hμ:∀ n:Nat,μ[n]? = some a→m[n]? = some .dead) (hd:∀ (b:Addr) (n:Nat),μ[n]? = some b→o = .own b→m[n]? = some .dead) (hnt:∀ ps,o≠.tbl ps:=by intro _ z; cases z):Sim c (upd G a o) μ ρ m σ H∧Gr G μ (upd G a o) μ:=by
 have gs:Same G (upd G a o):=fun b u e=>by
  by_cases hb:b=a
  ·subst hb
   rw [upd_same]
   exact hH.symm.trans (S.mem.gh _ _ e)
  ·rw [upd_ne hb]; exact e
 have g:Gr G μ (upd G a o) μ:=⟨gs,wai _⟩
 refine ⟨S.gr ⟨fun b u e=>?_,S.mem.bh,S.mem.g0.trans gs,fun b u e1 e2=>?_,S.mem.ml,S.mem.nd,fun i b k e1 e2=>?_,S.mem.used,S.mem.mb,fun p hp=>have T:=S.mem.tb p hp; T.up g.g (by rw [upd_ne (T.ne hH hnt)]; exact T.g) T.b T.m rfl⟩ g,g⟩
 ·by_cases hb:b=a
  ·subst hb
   rw [upd_same] at e
   rw [hH]; exact e
  ·rw [upd_ne hb] at e
   exact S.mem.gh b u e
 ·have nb:b≠a:=fun z=>by rw [z,hB] at e1; cases e1
  rw [upd_ne nb]
  exact S.mem.gb b u e1 e2
 ·by_cases hk:k = .dead
  ·subst hk; trivial
  ·have nb:b≠a:=fun z=>hk (Option.some.inj (e2.symm.trans (hμ i (z ▸ e1))))
   refine CellOk.mono g (fun q=>by rw [upd_ne nb]; exact q) (fun x e q=>?_) (fun _ _ _ e=>e) (S.mem.cell i b k e1 e2)
   have nx:x≠a:=fun z=>by
    rw [z,hH] at e
    exact hk (Option.some.inj (e2.symm.trans (hd b i e1 (Option.some.inj e))))
   rw [upd_ne nx]
   exact q
theorem ql0 {cn:Str} {n:Nat} {f:F} {l:EL} {C:Addr} {k:Nat} (F:Fit X c k) (hx:c.xo=none) (hC:X.mg cn=some (.ref C)):∀ (σ:L2.St) (H:Hp) (Q:VK),rE c (eNew cn n f l) σ H Q→tMakeSD C (spD c.K c.mg c.w n f) (WE c.W) (rL c l) σ H Q:=by
 rintro σ H Q ⟨ρ,m,G,μ,S,h⟩
 refine qa4 S h fun ds m1 vs H1 G1 μ1 S1 R1 g1 h1=>?_
 intro x dx hnx hnd hne
 split at h1
 ·rename_i hd
  obtain ⟨hl,hd⟩:=hd
  obtain ⟨gx,bx,mx⟩:=S1.mem.fresh hnx
  obtain ⟨gd,bd,md⟩:=S1.mem.fresh hnd
  have hC:c.mg cn=some (.ref C):=by rw [F.mg]; exact hC
  have s1:Same H1 (upd (upd H1 dx (.own x)) x (.ins C dx [])):=fun b u e=>by rw [upd_ne (ne_of_none e hnx),upd_ne (ne_of_none e hnd)]; exact e
  have hdx:upd (upd H1 dx (.own x)) x (.ins C dx []) dx=some (.own x):=by rw [upd_ne hne,upd_same]
  have M0:MemOk ⟨c.K,c.mg,c.w,none,hid H1,G1,fun _ _ _ _=>False⟩ G1 [x] [.obj cn []] (upd (upd H1 dx (.own x)) x (.ins C dx [])):=
   ⟨S1.mem.gh.trans s1,qbR.trans s1,Same.refl _,fun a o _ q=>q,rfl,by simp,fun n a k e e2=>by
    cases n with
    | zero=>
     obtain rfl:x=a:=by simpa using e
     obtain rfl:Cell.obj cn []=k:=by simpa using e2
     exact ⟨gx,qcI hnx,C,dx,[],hC,upd_same,hdx,gd,qcI hnd,.nil⟩
    | succ n=>simp at e,fun a ha=>by
    obtain rfl:a=x:=by simpa using ha
    rw [upd_same]; simp,fun a ha=>by
    obtain rfl:a=x:=by simpa using ha
    exact qcI hnx,fun p hp=>have T:=S1.mem.tb p hp; T.up (Same.refl _) T.g (if_pos ⟨p,hp,rfl⟩) (fun z=>T.ne0 hnx (by simpa using z)) (by rw [upd_ne (T.ne0 hnx),upd_ne (T.ne0 hnd)])⟩
  have R2:RepL c.K c.mg none G1 [x] (.loc 0::ds) (.ref x::vs):=.cons (.loc rfl) ((hx ▸ R1).off hd)
  refine ⟨by rw [← R2.length]; exact hl,_,_,hid H1,G1,[x],M0,R2,?_⟩
  have weak:∀ {G' μ' m' H'},MemOk ⟨c.K,c.mg,c.w,none,hid H1,G1,fun _ _ _ _=>False⟩ G' μ' m' H'→Sim c G' μ1 ρ m1 σ H'∧Gr G1 μ1 G' μ1:=fun M'=>S1.after (B':=H1) M'
  cases ef:f (.loc 0::ds) [.obj cn []] with
  | bad=>rw [ef] at h1; exact h1.elim
  | exc e m'=>
   rw [ef] at h1
   intro cc dd H' G' μ' M' g' x'
   obtain ⟨S2,g2⟩:=weak M'
   exact h1 cc dd H' G' μ1 S2 g2 x'
  | ok d m'=>
   rw [ef] at h1
   intro v H' G' μ' M' g' r'
   obtain ⟨S2,g2⟩:=weak M'
   cases d with
   | non=>
    simp only [newAt] at h1
    split at h1
    ·rename_i c' fs hm0
     split at h1
     ·rename_i hc
      obtain ⟨rfl,hn⟩:=hc
      cases r'
      refine ⟨rfl,?_⟩
      have hμ0:μ'[0]? = some x:=qdF g'.m rfl
      obtain ⟨gx',_,C',dx',fv,hC',ha,hd',gd',bd',rf⟩:=M'.cell 0 x _ hμ0 hm0
      have bd' : H1 dx' = none:=qgx (qcV M'.tb hd' (fun ps z=>by cases z)) bd'
      have rf:RepF c.K c.mg none G' μ' fs fv:=rf
      have nx:∀ n:Nat,μ1[n]?≠some x:=fun n e=>mx (waf e)
      have nd:∀ n:Nat,μ1[n]?≠some dx':=fun n e=>S1.mem.used dx' (waf e) bd'
      obtain ⟨S3,g3⟩:=S2.addG ha bx (fun n e=>absurd e (nx n)) (fun b n _ e=>by cases e)
      obtain ⟨S4,g4⟩:=S3.addG hd' (S1.mem.bh.free bd') (fun n e=>absurd e (nd n)) (fun b n e1 e=>by cases e; exact absurd e1 (nx n))
      have ndx:x≠dx':=fun z=>by rw [← z,ha] at hd'; cases hd'
      refine h1 _ _ _ _ S4 (.obj hC' (by rw [upd_ne ndx,upd_same]) (by rw [upd_same]) ?_) ((g2.trans g3).trans g4)
      exact RepF.mono (g3.trans g4).g (wai _) (.inl rfl) (rf.off hn)
     ·exact h1.elim
    ·exact h1.elim
   | _=>exact h1.elim
 ·exact h1.elim
theorem qha {cn:Str} {n k j:Nat} {f:F} {l:EL} {p pos:Pos} {e:Expr} {es:List Expr} (F:Fit X c k) (hxo:c.xo=none) (Y:MkOk X.prog X.w X.K X.mg X.base j cn n f) (hj:j+1≤k) (hg:Gl X cn) (ha:PA X (e::es) (rL c l)) (hdb:(cn == ("__debug__" : Str))=false:=by decide)
  (he:starEach (e::es) X.env=(false,eval e X.env)::starEach es X.env:=by rfl) (hpl:(backTo pos (starEach es X.env)).any (·.1)=false:=by rfl):PE X (.Call (.Name cn p) (e::es) [] pos) (rE c (eNew cn n f l)):=by
 obtain ⟨C,a,fd,ps,h1,h2,h3,h4⟩:=Y
 have h3:FnOk X.prog X.w X.K X.mg X.base (L2.CX X.prog X.w) j a fd ps (spD c.K c.mg c.w n f):=by
  rw [F.K,F.mg,F.w]
  exact h3
 exact (pe_makeSD (E:=WE c.W) h2 h3 (F.rm.mono hj) hg h1 h4 (fun σ=>passAt F.tk σ) ha hdb he hpl).imp (ql0 F hxo h1)
end
section
variable {K:PySem.W.Frag} {mg:Str→Option Value} {xo:XO} {G:Hp} {μ:List Addr} {n:Nat}
mutual
theorem Rep.lt:∀ {d:D} {v:V},locLt n d=true→Rep K mg xo G μ d v→Rep K mg xo G (μ.take n) d v
 | _,_,_,.non=>.non
 | _,_,_,.bl b=>.bl b
 | _,_,_,.int i=>.int i
 | _,_,_,.str x h=>.str x h
 | _,_,_,.ty n=>.ty n
 | _,_,_,.cls h=>.cls h
 | _,_,n,.lst h t=>.lst h (RepL.lt (by simpa [locLt] using n) t)
 | _,_,n,.tup h t=>.tup h (RepL.lt (by simpa [locLt] using n) t)
 | _,_,n,.dct h t=>.dct h (RepP.lt (by simpa [locLt] using n) t)
 | _,_,n,.obj h1 h2 h3 t=>.obj h1 h2 h3 (RepF.lt (by simpa [locLt] using n) t)
 | _,_,n,.exc h1 h2=>by simp [locLt] at n
 | .loc j,_,hn,.loc h=>.loc (by
  have:j < n:=by simpa [locLt] using hn
  rw [List.getElem?_take,if_pos this]; exact h)
theorem RepL.lt:∀ {d:List D} {v:List V},locLts n d=true→RepL K mg xo G μ d v→RepL K mg xo G (μ.take n) d v
 | _,_,_,.nil=>.nil
 | _,_,n,.cons h t=>by
  simp only [locLts,wac] at n
  exact .cons (Rep.lt n.1 h) (RepL.lt n.2 t)
theorem RepP.lt:∀ {d:List (D × D)} {v:List (Key × V)},locLtP n d=true→RepP K mg xo G μ d v→RepP K mg xo G (μ.take n) d v
 | _,_,_,.nil=>.nil
 | _,_,n,.int h t=>by
  simp only [locLtP,locLt,wac] at n
  exact .int (Rep.lt n.1.2 h) (RepP.lt n.2 t)
 | _,_,n,.str o h t=>by
  simp only [locLtP,locLt,wac] at n
  exact .str o (Rep.lt n.1.2 h) (RepP.lt n.2 t)
theorem RepF.lt:∀ {d:List (Str × D)} {v:List (Str × V)},locLtF n d=true→RepF K mg xo G μ d v→RepF K mg xo G (μ.take n) d v
 | _,_,_,.nil=>.nil
 | _,_,n,.cons h t=>by
  simp only [locLtF,wac] at n
  exact .cons (Rep.lt n.1 h) (RepF.lt n.2 t)
end
end
section
variable {X:Cx} {c:Ct} {G G' : Hp} {μ μ' : List Addr} {ρ:Ev} {m m' : Mem} {σ:L2.St} {H:Hp}
theorem RepT.lt {K:PySem.W.Frag} {mg:Str→Option Value} {xo:XO} {G:Hp} {μ:List Addr} {n:Nat}:∀ {d:List (D × D)} {v:List (List Key × V)},locLtP n d=true→RepT K mg xo G μ d v→RepT K mg xo G (μ.take n) d v
 | _,_,_,.nil=>.nil
 | _,_,n,.cons h r t=>by
  simp only [locLtP,wac] at n
  exact .cons h (Rep.lt n.1.2 r) (RepT.lt n.2 t)
theorem RepN.lt {K:PySem.W.Frag} {mg:Str→Option Value} {xo:XO} {G:Hp} {μ:List Addr} {n:Nat}:∀ {d:List (D × D)} {v:List (NestedKey × Addr × Value)},locLtP n d=true→RepN K mg xo G μ d v→RepN K mg xo G (μ.take n) d v
 | _,_,_,.nil=>.nil
 | _,_,n,.cons h q r l t=>by
  simp only [locLtP,wac] at n
  exact .cons h (Rep.lt n.1.1 q) (Rep.lt n.1.2 r) l (RepN.lt n.2 t)
theorem MemOk.take {n:Nat} (h:MemOk c G μ m H) (e:gcM n m=some m'):MemOk c G (μ.take n) m' H:=by
 unfold gcM at e
 split at e
 ·rename_i ha
  cases e
  refine ⟨h.gh,h.bh,h.g0,h.gb,by simp [h.ml],List.Nodup.sublist (List.take_sublist _ _) h.nd,fun i a k e1 e2=>?_,fun a ha=>h.used a (wba ha),fun a ha=>h.mb a (wba ha),fun p hp=>have T:=h.tb p hp; ⟨T.g,T.b,fun z=>T.m (wba z),T.t⟩⟩
  have hk:cellLt n k=true:=wag.mp ha k (waf e2)
  rw [List.getElem?_take] at e1 e2
  split at e1
  ·rename_i hi
   rw [if_pos hi] at e2
   have q:=h.cell i a k e1 e2
   cases k with
   | dead=>trivial
   | fn k=>exact q
   | lst xs=>
    obtain ⟨h1,h2,vs,h3,h4⟩:=q
    exact ⟨h1,h2,vs,h3,RepL.lt hk h4⟩
   | dct ps=>
    obtain ⟨h1,h2,vs,h3,h4⟩:=q
    exact ⟨h1,h2,vs,h3,RepP.lt hk h4⟩
   | dcT ps=>
    obtain ⟨h1,h2,vs,h3,h4⟩:=q
    exact ⟨h1,h2,vs,h3,RepT.lt hk h4⟩
   | dcN ps=>
    obtain ⟨h1,h2,vs,h3,h4⟩:=q
    exact ⟨h1,h2,vs,h3,RepN.lt hk h4⟩
   | dcF ps=>
    obtain ⟨xs,ep,h3,h4⟩:=q
    exact ⟨xs,ep,h3,RepN.lt hk h4⟩
   | obj cn fs=>
    obtain ⟨h1,h2,C,dx,fv,e,h3,h4,h5,h6,h7⟩:=q
    exact ⟨h1,h2,C,dx,fv,e,h3,h4,h5,h6,RepF.lt hk h7⟩
  ·cases e1
 ·cases e
open Classical in
theorem qfL {e:Expr} {f:E} {k:Nat} (is:List Nat) (F:Fit X c k) (hxo:c.xo=none) (h:∀ c' : Ct,c'.xo=none→Fit X c' k→PE X e (rE c' f)):PE X e (rE c (eLendS is f)):=by
 refine ⟨fun pins s σ H Q I q=>?_⟩
 obtain ⟨ρ,m,G,μ,S,q⟩:=q
 have q:PostE c G μ ρ σ Q (lendR m (f (lendE is m ρ) [])):=q
 let P:Addr→Prop:=fun b=>∃ (n:Nat) (xs:List D),μ[n]? = some b∧m[n]? = some (.lst xs)
 have hP:∀ b,P b→G b=none∧c.B b=none∧∃ vs,H b=some (.lst vs):=fun b ⟨n,xs,e1,e2⟩=>by
  obtain ⟨h1,h2,vs,h3,_⟩:=S.mem.cell n b _ e1 e2
  exact ⟨h1,h2,vs,h3⟩
 let Gx:Hp:=fun b=>if P b then H b else G b
 have gx:Same G Gx:=fun b o e=>by
  show (if P b then H b else G b)=_
  split
  ·exact S.mem.gh b o e
  ·exact e
 let c' : Ct:=⟨c.K,c.mg,c.w,none,hid H,Gx,c.W⟩
 have nB:∀ {a o},c.B a=some o→¬ IsTab a:=fun e=>qfj S.mem.tb e
 have nM:∀ {a},a∈μ→¬ IsTab a:=fun e=>qcJ S.mem.tb e
 have back:∀ {G1 μ1 ρ1 m1 H1},Sim c' G1 μ1 ρ1 m1 σ H1→Sim c (fun b=>if P b then none else G1 b) μ ρ m σ H1∧Gr G μ (fun b=>if P b then none else G1 b) μ:=fun {G1 μ1 ρ1 m1 H1} S1=>by
  have hs:∀ b o,H b=some o→¬ IsTab b→H1 b=some o:=fun b o e n=>S1.mem.bh b o ((qdo n).trans e)
  have gs:Same Gx G1:=S1.mem.g0
  have gb:∀ b o,H b=some o→¬ IsTab b→Gx b=none→G1 b=none:=fun b o e n q=>S1.mem.gb b o ((qdo n).trans e) q
  have g2:Gr G μ (fun b=>if P b then none else G1 b) μ:=⟨fun b o e=>by
   show (if P b then none else G1 b)=_
   rw [if_neg (fun z=>by rw [(hP b z).1] at e; cases e)]
   exact gs b o (gx b o e),wai _⟩
  have keep:∀ b o,H b=some o→¬ IsTab b→G b=none→(if P b then none else G1 b)=none:=fun b o e n z=>by
   by_cases hb:P b
   ·rw [if_pos hb]
   ·rw [if_neg hb]
    refine gb b o e n ?_
    show (if P b then H b else G b)=none
    rw [if_neg hb]
    exact z
  refine ⟨S.gr ⟨fun b o e=>?_,fun b o e=>hs b o (S.mem.bh b o e) (nB e),S.mem.g0.trans g2.g,fun b o e1 e2=>keep b o (S.mem.bh b o e1) (nB e1) (S.mem.gb b o e1 e2),S.mem.ml,S.mem.nd,fun n' b k' e1 e2=>?_,fun b hb=>?_,S.mem.mb,fun p hp=>?_⟩ g2,g2⟩
  ·have e:(if P b then none else G1 b)=some o:=e
   split at e
   ·cases e
   ·exact S1.mem.gh b o e
  ·have hb:=S.mem.used b (waf e1)
   refine CellOk.mono g2 (fun z=>?_) (fun x e z=>keep x _ e (qcV S.mem.tb e (fun _ z=>by cases z)) z) (fun x u hw e=>hs x u e (hw.elim (fun hw=>hw ▸ nM (waf e1)) (fun hw=>qcV S.mem.tb e (fun _ z=>by rw [hw] at z; cases z)))) (S.mem.cell n' b k' e1 e2)
   cases z2:H b with
   | none=>exact absurd z2 hb
   | some o=>exact keep b o z2 (nM (waf e1)) z
  ·have h1:=S.mem.used b hb
   cases z2:H b with
   | none=>exact absurd z2 h1
   | some o=>rw [hs b o z2 (nM hb)]; simp
  ·have T:=S1.mem.tb p hp
   refine ⟨?_,(S.mem.tb p hp).b,(S.mem.tb p hp).m,?_⟩
   ·show (if P p.1 then none else G1 p.1)=none
    split
    ·rfl
    ·exact T.g
   ·obtain ⟨ps,t1,t2,t3⟩:=T.t
    refine ⟨ps,t1,t2,fun pos cv hc=>?_⟩
    obtain ⟨q,e1,e2⟩:=t3 pos cv hc
    refine ⟨q,e1,?_⟩
    show (if P q then none else G1 q)=_
    rw [if_neg (fun z=>by
     obtain ⟨_,_,vs,hv⟩:=hP q z
     have e3:=S1.mem.gh q _ e2
     obtain ⟨n,xs,i1,i2⟩:=z
     rw [hs q _ hv (nM (waf i1))] at e3
     cases e3)]
    exact e2
 refine (h c' rfl ⟨F.K,F.mg,F.w,F.calm,F.tk,F.po,F.rm,F.nd⟩).run pins s σ H Q I ⟨lendE is m ρ,[],Gx,[],⟨⟨fun b o e=>?_,qbR,Same.refl _,fun b o _ z=>z,rfl,wbw,fun n a k e=>by simp at e,fun a ha=>by simp at ha,fun a ha=>by simp at ha,fun p hp=>have T:=S.mem.tb p hp; T.up gx (by
  show (if P p.1 then H p.1 else G p.1)=none
  rw [if_neg (fun z=>T.m (let ⟨n,xs,i1,_⟩:=z; waf i1))]
  exact T.g) (if_pos ⟨p,hp,rfl⟩) (by simp) rfl⟩,fun j d e=>?_,by simp [lendE,S.len]⟩,?_⟩
 ·have e:(if P b then H b else G b)=some o:=e
  split at e
  ·exact e
  ·exact S.mem.gh b o e
 ·have e:(lendE is m ρ)[j]? = some (some d):=e
  unfold lendE at e
  rw [List.getElem?_mapIdx] at e
  cases er:ρ[j]? with
  | none=>rw [er] at e; cases e
  | some o=>
   rw [er] at e
   have e:lendD (decide (j∈is)) m o=some d:=by simpa using e
   cases o with
   | none=>simp [lendD,hide] at e
   | some d'=>
    obtain ⟨v,hv,r⟩:=S.env j _ er
    refine ⟨v,hv,?_⟩
    have tree:hide (some d')=some d→Rep c.K c.mg none Gx [] d v:=fun e=>by
     by_cases hd:noLoc d' = true
     ·obtain rfl:d' = d:=by simpa [hide,hd] using e
      exact Rep.mono gx (wai _) (.inl rfl) (Rep.off hd (hxo ▸ r))
     ·simp [hide,hd] at e
    cases d' with
    | loc n=>
     have e:(if decide (j∈is)=true then (match m[n]? with
      | some (.lst xs)=>if noLocs xs=true then some (D.lst xs) else none
      | _=>none) else none)=some d:=e
     split at e
     ·split at e
      ·rename_i xs hm
       split at e
       ·rename_i hn
        cases e
        cases r with
        | loc hμ=>
         rename_i a
         obtain ⟨_,_,vs,ha,ra⟩:=S.mem.cell n a _ hμ hm
         refine .lst (SqL.of ?_) (RepL.mono gx (wai _) (.inl rfl) (RepL.off hn (hxo ▸ ra)))
         show (if P a then H a else G a)=_
         rw [if_pos ⟨n,xs,hμ,hm⟩]
         exact ha
       ·cases e
      ·cases e
     ·cases e
    | _=>exact tree e
 ·cases ef:f (lendE is m ρ) [] with
  | bad=>rw [ef] at q; exact q.elim
  | exc x m1=>
   rw [ef] at q
   intro cc dd H1 G1 μ1 S1 gr1 x1
   obtain ⟨S2,g2⟩:=back S1
   refine q cc dd H1 _ μ S2 g2 ?_
   cases x with
   | exc cn fs=>
    obtain ⟨C,h1,h2,h3⟩:=x1
    refine ⟨C,h1,h2,?_⟩
    rcases h3 with h3 | ⟨h0,d,fv,h3,h4,h5⟩
    ·exact .inl h3
    ·refine .inr ⟨h0,d,fv,h3,?_,h5⟩
     show (if P d then none else G1 d)=_
     rw [if_neg (fun z=>by
      obtain ⟨_,_,vs,z3⟩:=hP d z
      have z4:G1 d=some (.lst vs):=S1.mem.g0 d _ (show (if P d then H d else G d)=_ by rw [if_pos z]; exact z3)
      rw [h4] at z4
      cases z4)]
     exact h4
   | _=>exact x1.elim
  | ok d m1=>
   rw [ef] at q
   have q:PostE c G μ ρ σ Q (if flatB d=true then .ok d m else .bad):=q
   split at q
   ·rename_i hf
    intro v H1 G1 μ1 S1 R1 gr1
    obtain ⟨S2,g2⟩:=back S1
    exact q v H1 _ μ S2 (Rep.flat hf R1) g2
   ·exact q.elim
variable {a b:Expr} {fa fb:E} {pos:Pos} {k:Nat}
end
end TT

set_option maxHeartbeats 2000000
namespace L2
open PySem PySem.Spec PyProof.Rows
section
variable {prog:Program} {w:World} {A:Around} {E:Value→Shared→Prop} {s:Shared}
end
section
variable {X:Cx} {k v:Expr} {tk tv:TE} {pos:Pos}
end
end L2
namespace TT
open PySem PySem.Spec PyProof.Rows L2
variable [TabI]
section
variable {X:Cx} {c:Ct} {G:Hp} {μ:List Addr} {ρ:Ev} {m:Mem} {σ:L2.St} {H:Hp}
theorem KeyA.of {d:D} {v:V} {K:PySem.W.Frag} {mg:Str→Option Value} {xo:XO} (h:keyA d=true) (r:Rep K mg xo G μ d v):∃ k,KeyA d k∧v=kV k:=by
 cases d with
 | int i=>cases r; exact ⟨.inl i,.int i,rfl⟩
 | str s=>cases r with | str _ ho=>exact ⟨.inr s,.str s ho,rfl⟩
 | _=>cases h
theorem KeyL.of {K:PySem.W.Frag} {mg:Str→Option Value} {xo:XO}:∀ {ds:List D} {vs:List V},ds.all keyA=true→RepL K mg xo G μ ds vs→∃ ks,KeyL ds ks∧vs=ks.map kV
 | _,_,_,.nil=>⟨[],.nil,rfl⟩
 | _,_,h,.cons r t=>by
  rw [List.all_cons,wac] at h
  obtain ⟨k,h1,rfl⟩:=KeyA.of h.1 r
  obtain ⟨ks,h2,rfl⟩:=KeyL.of h.2 t
  exact ⟨k::ks,.cons h1 h2,rfl⟩
theorem KeyT.of {d:D} {v:V} {K:PySem.W.Frag} {mg:Str→Option Value} {xo:XO} (h:keyT d=true) (r:Rep K mg xo G μ d v):∃ ds ks b,d = .tup ds∧KeyL ds ks∧v = .ref b∧G b=some (.tup (ks.map kV)):=by
 cases d with
 | tup xs=>
  cases r with
  | tup hs t=>
   obtain ⟨ks,h2,rfl⟩:=KeyL.of h t
   exact ⟨xs,ks,_,rfl,h2,rfl,hs⟩
 | _=>cases h
theorem KeyA.eqv {d e:D} {k j:Key} (h:KeyA d k) (h' : KeyA e j):eqvD d e=decide (k=j):=by
 cases h with
 | int i=>
  cases h' with
  | int i'=>show (i == i')=_; rw [wa1,beq_iff_eq,decide_eq_true_iff]; exact ⟨fun e=>by rw [e],fun e=>by cases e; rfl⟩
  | str s _=>rfl
 | str s _=>
  cases h' with
  | int i'=>rfl
  | str s' _=>show (s == s')=_; rw [wa1,beq_iff_eq,decide_eq_true_iff]; exact ⟨fun e=>by rw [e],fun e=>by cases e; rfl⟩
theorem KeyL.eqv:∀ {ds es:List D} {ks js:List Key},KeyL ds ks→KeyL es js→eqvL ds es=decide (ks=js)
 | _,_,_,_,.nil,.nil=>rfl
 | _,_,_,_,.nil,.cons _ _=>rfl
 | _,_,_,_,.cons _ _,.nil=>rfl
 | _,_,_,_,.cons h t,.cons h' t'=>by
  show (eqvD _ _ && eqvL _ _)=_
  rw [h.eqv h',KeyL.eqv t t',wa1]
  simp
theorem RepP.val {K:PySem.W.Frag} {mg:Str→Option Value} {xo:XO} {k:D} {j:Key} (hk:KeyA k j):∀ {ps:List (D × D)} {kvs:List (Key × V)},RepP K mg xo G μ ps kvs →
  (∀ d,getP ps k=some d→∃ v,valV kvs j=some v∧Rep K mg xo G μ d v)∧((getP ps k).isSome=(valV kvs j).isSome)
 | _,_,.nil=>⟨fun _ h=>(by cases h),rfl⟩
 | _,_,.int (i:=i) (d:=d) (v:=v) (ps:=ps) (kvs:=kvs) r t=>by
  obtain ⟨h1,h2⟩:=RepP.val hk t
  have e:=(KeyA.int i).eqv hk
  by_cases q:Sum.inl i=j
  ·have e1:getP ((D.int i,d)::ps) k=some d:=by
    unfold getP
    rw [waM]
    simp [e,q]
   rw [e1,valV_pos q]
   exact ⟨fun d' h=>by cases h; exact ⟨v,rfl,r⟩,rfl⟩
  ·have e1:getP ((D.int i,d)::ps) k=getP ps k:=by
    unfold getP
    rw [waM]
    simp [e,q]
   rw [e1,valV_neg q]
   exact ⟨h1,h2⟩
 | _,_,.str (s:=s) (d:=d) (v:=v) (ps:=ps) (kvs:=kvs) ho r t=>by
  obtain ⟨h1,h2⟩:=RepP.val hk t
  have e:=(KeyA.str s ho).eqv hk
  by_cases q:Sum.inr s=j
  ·have e1:getP ((D.str s,d)::ps) k=some d:=by
    unfold getP
    rw [waM]
    simp [e,q]
   rw [e1,valV_pos q]
   exact ⟨fun d' h=>by cases h; exact ⟨v,rfl,r⟩,rfl⟩
  ·have e1:getP ((D.str s,d)::ps) k=getP ps k:=by
    unfold getP
    rw [waM]
    simp [e,q]
   rw [e1,valV_neg q]
   exact ⟨h1,h2⟩
theorem RepT.val {K:PySem.W.Frag} {mg:Str→Option Value} {xo:XO} {k:List D} {j:List Key} (hk:KeyL k j):∀ {ps:List (D × D)} {kvs:List (List Key × V)},RepT K mg xo G μ ps kvs →
  (∀ d,getP ps (.tup k)=some d→∃ v,valV kvs j=some v∧Rep K mg xo G μ d v)∧((getP ps (.tup k)).isSome=(valV kvs j).isSome)
 | _,_,.nil=>⟨fun _ h=>(by cases h),rfl⟩
 | _,_,.cons (ks:=ks) (k:=i) (d:=d) (v:=v) (ps:=ps) (kvs:=kvs) h r t=>by
  obtain ⟨h1,h2⟩:=RepT.val hk t
  have e:eqvD (.tup ks) (.tup k)=decide (i=j):=h.eqv hk
  by_cases q:i=j
  ·have e1:getP ((D.tup ks,d)::ps) (.tup k)=some d:=by
    unfold getP
    rw [waM]
    simp [e,q]
   rw [e1,valV_pos q]
   exact ⟨fun d' h=>by cases h; exact ⟨v,rfl,r⟩,rfl⟩
  ·have e1:getP ((D.tup ks,d)::ps) (.tup k)=getP ps (.tup k):=by
    unfold getP
    rw [waM]
    simp [e,q]
   rw [e1,valV_neg q]
   exact ⟨h1,h2⟩
theorem RepP.append {K:PySem.W.Frag} {mg:Str→Option Value} {xo:XO}:∀ {ps qs:List (D × D)} {kvs jvs:List (Key × V)},RepP K mg xo G μ ps kvs→RepP K mg xo G μ qs jvs→RepP K mg xo G μ (ps++qs) (kvs++jvs)
 | _,_,_,_,.nil,s=>s
 | _,_,_,_,.int r t,s=>.int r (RepP.append t s)
 | _,_,_,_,.str o r t,s=>.str o r (RepP.append t s)
theorem RepP.one {K:PySem.W.Frag} {mg:Str→Option Value} {xo:XO} {k d:D} {j:Key} {v:V} (hk:KeyA k j) (r:Rep K mg xo G μ d v):RepP K mg xo G μ [(k,d)] [(j,v)]:=by
 cases hk with
 | int i=>exact .int r .nil
 | str s o=>exact .str o r .nil
theorem RepP.any {K:PySem.W.Frag} {mg:Str→Option Value} {xo:XO} {k:D} {j:Key} (hk:KeyA k j):∀ {ps:List (D × D)} {kvs:List (Key × V)},RepP K mg xo G μ ps kvs→(ps.any fun p=>eqvD p.1 k)=kvs.any fun kv=>decide (kv.1=j)
 | _,_,.nil=>rfl
 | _,_,.int (i:=i) r t=>by rw [waX,waX,RepP.any hk t,(KeyA.int i).eqv hk]
 | _,_,.str (s:=s) o r t=>by rw [waX,waX,RepP.any hk t,(KeyA.str s o).eqv hk]
theorem RepP.repl {K:PySem.W.Frag} {mg:Str→Option Value} {xo:XO} {k d:D} {j:Key} {v:V} (hk:KeyA k j) (rd:Rep K mg xo G μ d v):∀ {ps:List (D × D)} {kvs:List (Key × V)},RepP K mg xo G μ ps kvs→RepP K mg xo G μ (ps.map fun p=>if eqvD p.1 k=true then (p.1,d) else p) (kvs.map fun kv=>if kv.1=j then (kv.1,v) else kv)
 | _,_,.nil=>.nil
 | _,_,.int (i:=i) r t=>by
  have e:=(KeyA.int i).eqv hk
  rw [wah,wah]
  simp only [e]
  by_cases q:Sum.inl i=j
  ·simp only [q,decide_true,if_true]
   have hh:=RepP.repl hk rd t
   rw [← q] at hh ⊢
   exact .int rd hh
  ·simp only [q,decide_false,if_false,waG]
   exact .int r (RepP.repl hk rd t)
 | _,_,.str (s:=s) o r t=>by
  have e:=(KeyA.str s o).eqv hk
  rw [wah,wah]
  simp only [e]
  by_cases q:Sum.inr s=j
  ·simp only [q,decide_true,if_true]
   have hh:=RepP.repl hk rd t
   rw [← q] at hh ⊢
   exact .str o rd hh
  ·simp only [q,decide_false,if_false,waG]
   exact .str o r (RepP.repl hk rd t)
theorem RepP.put {K:PySem.W.Frag} {mg:Str→Option Value} {xo:XO} {k d:D} {j:Key} {v:V} (hk:KeyA k j) (rd:Rep K mg xo G μ d v) {ps:List (D × D)} {kvs:List (Key × V)} (h:RepP K mg xo G μ ps kvs):RepP K mg xo G μ (putP ps k d) (putK kvs j v):=by
 unfold putP putK
 rw [h.any hk]
 split
 ·exact h.repl hk rd
 ·exact h.append (.one hk rd)
theorem RepT.append {K:PySem.W.Frag} {mg:Str→Option Value} {xo:XO}:∀ {ps qs:List (D × D)} {kvs jvs:List (List Key × V)},RepT K mg xo G μ ps kvs→RepT K mg xo G μ qs jvs→RepT K mg xo G μ (ps++qs) (kvs++jvs)
 | _,_,_,_,.nil,s=>s
 | _,_,_,_,.cons h r t,s=>.cons h r (RepT.append t s)
theorem RepT.any {K:PySem.W.Frag} {mg:Str→Option Value} {xo:XO} {k:List D} {j:List Key} (hk:KeyL k j):∀ {ps:List (D × D)} {kvs:List (List Key × V)},RepT K mg xo G μ ps kvs→(ps.any fun p=>eqvD p.1 (.tup k))=kvs.any fun kv=>decide (kv.1=j)
 | _,_,.nil=>rfl
 | _,_,.cons (ks:=ks) (k:=i) h r t=>by
  have e:eqvD (.tup ks) (.tup k)=decide (i=j):=h.eqv hk
  rw [waX,waX,RepT.any hk t,e]
theorem RepT.repl {K:PySem.W.Frag} {mg:Str→Option Value} {xo:XO} {k:List D} {d:D} {j:List Key} {v:V} (hk:KeyL k j) (rd:Rep K mg xo G μ d v):∀ {ps:List (D × D)} {kvs:List (List Key × V)},RepT K mg xo G μ ps kvs→RepT K mg xo G μ (ps.map fun p=>if eqvD p.1 (.tup k)=true then (p.1,d) else p) (kvs.map fun kv=>if kv.1=j then (kv.1,v) else kv)
 | _,_,.nil=>.nil
 | _,_,.cons (ks:=ks) (k:=i) h r t=>by
  have e:eqvD (.tup ks) (.tup k)=decide (i=j):=h.eqv hk
  rw [wah,wah]
  simp only [e]
  by_cases q:i=j
  ·simp only [q,decide_true,if_true]
   exact .cons (q ▸ h) rd (RepT.repl hk rd t)
  ·simp only [q,decide_false,if_false,waG]
   exact .cons h r (RepT.repl hk rd t)
theorem RepT.put {K:PySem.W.Frag} {mg:Str→Option Value} {xo:XO} {k:List D} {d:D} {j:List Key} {v:V} (hk:KeyL k j) (rd:Rep K mg xo G μ d v) {ps:List (D × D)} {kvs:List (List Key × V)} (h:RepT K mg xo G μ ps kvs):RepT K mg xo G μ (putP ps (.tup k) d) (putK kvs j v):=by
 unfold putP putK
 rw [h.any hk]
 split
 ·exact h.repl hk rd
 ·exact h.append (.cons hk rd .nil)
theorem RepP.length {K:PySem.W.Frag} {mg:Str→Option Value} {xo:XO}:∀ {ps:List (D × D)} {kvs:List (Key × V)},RepP K mg xo G μ ps kvs→ps.length=kvs.length
 | _,_,.nil=>rfl
 | _,_,.int _ t=>by rw [wab,wab,RepP.length t]
 | _,_,.str _ _ t=>by rw [wab,wab,RepP.length t]
theorem RepT.length {K:PySem.W.Frag} {mg:Str→Option Value} {xo:XO}:∀ {ps:List (D × D)} {kvs:List (List Key × V)},RepT K mg xo G μ ps kvs→ps.length=kvs.length
 | _,_,.nil=>rfl
 | _,_,.cons _ _ t=>by rw [wab,wab,RepT.length t]
variable {a b o i v:Expr} {fa fb fo fi fv:E} {pos pos' : Pos} {k:Nat}
end
end TT

namespace TT
open PySem PySem.Spec PyProof.Rows L2
variable [TabI]

section
variable {X:Cx} {c:Ct}
end

structure FnG (P:Program) (w:World) (K:PySem.W.Frag) (mg:Str→Option Value) (base:Heap) (k:Nat) (f:Addr) (fd:FuncData) (ps:List Str) (sp:Sp):Prop where
 size:∀ vs H Q E,sp vs H Q E→vs.length=ps.length
 goes:∀ {A:Around} {outer:List Env} {s:Shared} {H:Hp} {args:Args} {us:List Value} {vs:List V} {Q:VK} {E:XK},A.guards=some []→Room k A→Env0 P w K mg base A outer s H →
  BindsTo s fd args (ps.zip us)→Vals vs us→sp vs H Q E→codeAny (model P w) A (.call (.ref f) args) (CR (L2.CX P w) outer P w H s Q E) s
section
variable {P:Program} {w:World} {K:PySem.W.Frag} {mg:Str→Option Value} {base:Heap}
end
theorem FnG.imp {P:Program} {w:World} {K:PySem.W.Frag} {mg:Str→Option Value} {base:Heap} {k:Nat} {f:Addr} {fd:FuncData} {ps:List Str} {sp sp' : Sp} (F:FnG P w K mg base k f fd ps sp) (h:∀ vs H Q E,sp' vs H Q E→sp vs H Q E):FnG P w K mg base k f fd ps sp':=
 ⟨fun _ _ _ _ q=>F.size _ _ _ _ (h _ _ _ _ q),fun g r e b v q=>F.goes g r e b v (h _ _ _ _ q)⟩
section
variable {P:Program} {w:World} {K:PySem.W.Frag} {mg mb:Str→Option Value} {k:Nat} {fa a:Addr} {fd:FuncData} {x:Str} {sp:Sp} {s₁:Shared} {vs:List Value} {ns:List Int}
structure Seen (K:PySem.W.Frag) (a:Addr) (ns:List Int) (h:Heap) (H:Hp):Prop where
 only:Only H
 scr:SqL K H a (ns.map V.int)
 one:∀ b,H b≠none→b=a
 own:H a≠none→K.lookup a=none
end
structure Shw (n:Nat) (d:D):Prop where
 ok:(toPy d).showable=true
 len:(toPy d).shown.length≤n
 cps:okS (toPy d).shown=true
theorem Shw.mono {m n:Nat} {d:D} (h:Shw m d) (le:m≤n):Shw n d:=⟨h.ok,wbr h.len le,h.cps⟩
theorem qjo {s:Str} (h:∀ c∈s.cps.toList,c < 0x110000):okS s=true:=by
 unfold okS
 rw [← wbC,wag]
 exact fun c hc=>decide_eq_true (h c hc)
theorem qhb {s:Str} (h:okS s=true):∀ c∈s.cps.toList,c < 0x110000:=by
 unfold okS at h
 rw [← wbC,wag] at h
 exact fun c hc=>of_decide_eq_true (h c hc)
theorem qda {a b:Str} (ha:okS a=true) (hb:okS b=true):okS (a++b)=true:=qjo fun c hc=>by
 have e:(a++b).cps.toList=a.cps.toList++b.cps.toList:=Array.toList_append
 rw [e] at hc
 exact (wau.mp hc).elim (qhb ha c) (qhb hb c)
theorem qdb (a b:Str):(a++b).length=a.length+b.length:=by
 show (a.cps++b.cps).size=a.cps.size+b.cps.size
 rw [Array.size_append]
theorem qbL:∀ (ts:List Str) (k:Nat) (acc:Str),okS acc=true→(∀ t∈ts,okS t=true)→okS (textFrom k acc ts)=true
 | [],_,_,h,_=>h
 | t::ts,k,acc,h,ht=>by
  unfold textFrom
  refine qbL ts (k+1) _ (qda (qda h ?_) (ht t (by simp))) fun u hu=>ht u (by simp [hu])
  by_cases hk:k > 0
  ·rw [if_pos hk]; decide +kernel
  ·rw [if_neg hk]; decide +kernel
theorem qbM (n:Nat):∀ (ts:List Str) (k:Nat) (acc:Str),(∀ t∈ts,t.length≤n)→(textFrom k acc ts).length≤acc.length+ts.length * (n+2)
 | [],_,acc,_=>by
  show acc.length≤_
  omega
 | t::ts,k,acc,ht=>by
  unfold textFrom
  have ih:=qbM n ts (k+1) (acc++(if k > 0 then ", " else "" : String)++t) fun u hu=>ht u (by simp [hu])
  have h1:=ht t (by simp)
  have h2:((if k > 0 then ", " else "" : String):Str).length≤2:=by
   by_cases hk:k > 0
   ·rw [if_pos hk]; decide +kernel
   ·rw [if_neg hk]; decide +kernel
  rw [qdb,qdb] at ih
  rw [wab,Nat.add_mul]
  omega
theorem qcr (xs:List D):PyData.shownAll (toPyL xs)=xs.map fun x=>(toPy x).shown:=by
 induction xs with
 | nil=>exact PyData.shownAll_nil
 | cons x xs ih=>
  show PyData.shownAll (toPy x::toPyL xs)=_
  rw [PyData.shownAll_cons,ih]
  rfl
theorem qbt {xs:List D} (h:∀ x∈xs,(toPy x).showable=true):PyData.showableAll (toPyL xs)=true:=by
 induction xs with
 | nil=>rfl
 | cons x xs ih=>
  show ((toPy x).showable && PyData.showableAll (toPyL xs))=true
  rw [h x (by simp),ih fun y hy=>h y (by simp [hy])]
  rfl
theorem Shw.lst {n:Nat} {xs:List D} (h:∀ x∈xs,Shw n x):Shw (2+xs.length * (n+2)) (.lst xs):=by
 have e:(toPy (.lst xs)).shown=listText (xs.map fun x=>(toPy x).shown):=by
  show (PyData.list (toPyL xs)).shown=_
  rw [← qcr]
  simp only [PyData.shown]
 refine ⟨qbt fun x hx=>(h x hx).ok,?_,?_⟩
 ·rw [e]
  unfold listText
  have:=qbM n (xs.map fun x=>(toPy x).shown) 0 "[" (fun t ht=>by
   obtain ⟨x,hx,rfl⟩:=wae.mp ht
   exact (h x hx).len)
  rw [waa] at this
  rw [qdb]
  have h1:("[" : Str).length=1:=by decide +kernel
  have h2:("]" : Str).length=1:=by decide +kernel
  omega
 ·rw [e]
  exact qda (qbL _ _ _ (by decide +kernel) fun t ht=>by
   obtain ⟨x,hx,rfl⟩:=wae.mp ht
   exact (h x hx).cps) (by decide +kernel)
theorem qer (s:Str):("" : Str)++s=s:=by
 have h:("" : Str)=⟨#[]⟩:=by decide +kernel
 rw [h]
 show Str.mk (#[]++s.cps)=s
 rw [Array.empty_append]
theorem qhc (t:Str) (ts:List Str):Str.join ", " (t::ts)=textFrom 1 t ts:=by
 have:=textFrom_pos ts 1 "" t (by decide)
 rw [qer,qer] at this
 exact this.symm
theorem Shw.tup {n:Nat} {xs:List D} (h:∀ x∈xs,Shw n x):Shw (3+xs.length * (n+2)) (.tup xs):=by
 have e:(toPy (.tup xs)).shown=tupleText (xs.map fun x=>(toPy x).shown):=by
  show (PyData.tuple (toPyL xs)).shown=_
  rw [← qcr]
  simp only [PyData.shown]
 have jn:∀ ts:List Str,(∀ t∈ts,t.length≤n∧okS t=true)→(Str.join ", " ts).length≤ts.length * (n+2)∧okS (Str.join ", " ts)=true:=fun ts ht=>by
  cases ts with
  | nil=>
   have h0:(Str.join ", " []).length=0:=by decide +kernel
   exact ⟨by rw [h0]; exact waN _,by decide +kernel⟩
  | cons t ts=>
   rw [qhc]
   have h0:=ht t (by simp)
   have h1:=qbM n ts 1 t fun u hu=>(ht u (by simp [hu])).1
   rw [wab,Nat.add_mul]
   exact ⟨by omega,qbL _ _ _ h0.2 fun u hu=>(ht u (by simp [hu])).2⟩
 have j:=jn (xs.map fun x=>(toPy x).shown) (fun t ht=>by
  obtain ⟨x,hx,rfl⟩:=wae.mp ht
  exact ⟨(h x hx).len,(h x hx).cps⟩)
 rw [waa] at j
 have tl:∀ b:Bool,((if b=true then ",)" else ")" : String):Str).length≤2∧okS (if b=true then ",)" else ")" : String)=true:=by decide +kernel
 have t2:=tl ((xs.map fun x=>(toPy x).shown).length == 1)
 refine ⟨qbt fun x hx=>(h x hx).ok,?_,?_⟩
 ·rw [e]
  unfold tupleText
  rw [qdb,qdb]
  have h1:("(" : Str).length=1:=by decide +kernel
  omega
 ·rw [e]
  exact qda (qda (by decide +kernel) j.2) t2.2
theorem qe2:∀ c:Nat,c < 128→∀ q:Nat,q=34∨q=39→∀ x∈Builtin.Str.reprChar q c,x < 0x110000:=by
 have h:∀ c:Fin 128,(Builtin.Str.reprChar 34 c.val).all (fun x=>decide (x < 0x110000))=true∧(Builtin.Str.reprChar 39 c.val).all (fun x=>decide (x < 0x110000))=true:=by decide +kernel
 intro c hc q hq x hx
 obtain ⟨h1,h2⟩:=h ⟨c,hc⟩
 rw [wag] at h1 h2
 rcases hq with rfl | rfl
 ·exact of_decide_eq_true (h1 x hx)
 ·exact of_decide_eq_true (h2 x hx)
theorem qcs (q:Nat) (hq:q=34∨q=39):∀ (l:List Nat) (acc:Array Nat),(∀ c∈l,c < 128)→(∀ x∈acc.toList,x < 0x110000)→∀ x∈(l.foldl (fun out c=>out++(Builtin.Str.reprChar q c).toArray) acc).toList,x < 0x110000
 | [],_,_,h=>h
 | c::l,acc,hl,h=>qcs q hq l _ (fun d hd=>hl d (by simp [hd])) fun x hx=>by
  rw [Array.toList_append] at hx
  exact (wau.mp hx).elim (h x) fun hx=>qe2 c (hl c (by simp)) q hq x hx
theorem Shw.str {s:Str} (h:∀ c∈s.cps.toList,c < 128):Shw (10 * s.length+2) (.str s):=by
 have e:(toPy (.str s)).shown=reprText s:=by
  show (PyData.str s).shown=_
  simp only [PyData.shown]
 refine ⟨rfl,?_,?_⟩
 ·rw [e]
  exact StrLaws.reprText_len s fun c hc=>Nat.lt_trans (h c hc) (by decide)
 ·rw [e]
  refine qjo fun c hc=>?_
  have hq:reprQuote s=34∨reprQuote s=39:=by
   unfold reprQuote
   split
   ·exact .inl rfl
   ·exact .inr rfl
  unfold reprText at hc
  have hc:c∈((s.cps.foldl (fun out c=>out++(Builtin.Str.reprChar (reprQuote s) c).toArray) #[reprQuote s]).push (reprQuote s)).toList:=hc
  rw [Array.toList_push,wau] at hc
  have q128:reprQuote s < 0x110000:=by rcases hq with z | z <;> rw [z] <;> decide
  rcases hc with hc | hc
  ·rw [← Array.foldl_toList] at hc
   exact qcs _ hq _ _ h (fun x hx=>by
    have hx:x∈[reprQuote s]:=hx
    rw [waC.mp hx]
    exact q128) c hc
  ·rw [waC.mp hc]
   exact q128
theorem Shw.non:Shw 4 .non:=⟨by decide +kernel,by decide +kernel,by decide +kernel⟩
theorem Shw.bl (b:Bool):Shw 5 (.bl b):=by cases b <;> exact ⟨by decide +kernel,by decide +kernel,by decide +kernel⟩
theorem Shw.int {n:Nat} (h:n < 100):Shw 2 (.int (n:Nat)):=by
 have:∀ n:Fin 100,(toPy (.int ((n.val:Nat):Int))).showable=true∧(toPy (.int ((n.val:Nat):Int))).shown.length≤2∧okS (toPy (.int ((n.val:Nat):Int))).shown=true:=by decide +kernel
 obtain ⟨h1,h2,h3⟩:=this ⟨n,h⟩
 exact ⟨h1,h2,h3⟩
end TT

set_option maxHeartbeats 2000000
namespace TT
open PySem PySem.Spec PyProof.Rows L2
variable [TabI]
section
variable {X:Cx} {c:Ct} {G:Hp} {μ:List Addr} {ρ:Ev} {m:Mem} {σ:L2.St} {H:Hp}
abbrev rSplit:V→List V→Hp→VK→Prop:=fun x xs H Q=>∃ a b,x = .str a∧xs=[.str b]∧(b.length == 0)=false∧a.length+2≤sizeLine∧rNewStrs (Txt.split a b) H Q
abbrev rFind:V→List V→Hp→VK→Prop:=fun x xs H Q=>∃ a b,x = .str a∧xs=[.str b]∧Q (.int (Txt.find a b)) H
abbrev rPart:V→List V→Hp→VK→Prop:=fun x xs H Q=>∃ a b,x = .str a∧xs=[.str b]∧(b.length == 0)=false∧a.length≤sizeLine ∧
  ∀ p,H p=none→Q (.ref p) (upd H p (.tup [.str (Txt.partition a b).1,.str (Txt.partition a b).2.1,.str (Txt.partition a b).2.2]))
abbrev rStrI:List V→Hp→VK→Prop:=fun xs H Q=>∃ i,xs=[.int i]∧i.natAbs.log2 < 1920∧Q (.str (toString i)) H
abbrev rIntS:List V→Hp→VK→Prop:=fun xs H Q=>∃ a n,xs=[.str a]∧PySem.intText? a=some n∧a.length≤640∧Q (.int n) H
abbrev rInsert:V→List V→Hp→VK→Prop:=fun x vs H Q=>∃ (l:Addr) (xs:List V) (i:Int) (y:V),x = .ref l∧vs=[.int i,y]∧H l=some (.lst xs)∧xs.length < sizeLine∧0≤i∧i < 2 ^ 63 ∧
  Q .non (upd H l (.lst (xs.take i.toNat++[y]++xs.drop i.toNat)))
end
end TT

set_option maxHeartbeats 2000000
namespace L2
open PySem PySem.Spec PyProof.Rows
abbrev Cx.kp (X:Cx) (pn:List (Addr × Obj)):Cx:=X.tr pn X.xe
def wKeep (K:PySem.W.Frag) (c:Value) (i:Nat) (tsu tr:Addr→Value→Option Addr→TS) (Wout:WX) (D:Ends):WX:=fun cls d σ H=>
 ∃ b,PySem.W.exmOne K cls c=some b∧(b=true→∀ a,H a=none→tsu a cls d { nx:=fun σ' H'=>tr a cls d D (σ'.set i none) H',rt:=fun _ _=>False,bk:=fun _ _=>False,ct:=fun _ _=>False } (σ.set i (some (.ref a))) H)∧(b=false→Wout cls d σ H)
section
variable {X:Cx} {pins:List (Addr × Obj)} {σ:St} {H:Hp} {s:Shared}
theorem Inv.kp {a:Addr} {q:Addr × Obj} (I:Inv (X.suite a (q::(X.pn++pins))) [] σ H s) (ok:X.Ok):Inv (X.kp (q::(X.pn++pins))) [] σ H s:=
 ⟨ok.toTry _ _,I.os,I.bare,I.base,I.loc,I.cell,I.free,I.freeC,I.pin,I.hok,I.len⟩
theorem Inv.unkp {q:Addr × Obj} {pn' : List (Addr × Obj)} (I:Inv (X.kp (q::(X.pn++pins))) pn' σ H s) (ok:X.Ok):Inv X pins σ H s:=
 ⟨ok,I.os,I.bare,I.base,I.loc,I.cell,I.free,I.freeC,fun p hp=>I.pin p (waS _ (waJ _ hp)),I.hok,I.len⟩
theorem SP.unkp {q:Addr × Obj} {D:Ends} {f:Flow} (h:SP (X.kp (q::(X.pn++pins))) [] D f s) (ok:X.Ok):SP X pins D f s:=by
 cases f with
 | next=>obtain ⟨σ',H',J,q⟩:=h; exact ⟨σ',H',J.unkp ok,q⟩
 | brk=>obtain ⟨σ',H',J,q⟩:=h; exact ⟨σ',H',J.unkp ok,q⟩
 | cont=>obtain ⟨σ',H',J,q⟩:=h; exact ⟨σ',H',J.unkp ok,q⟩
 | ret w=>obtain ⟨v,σ',H',J,r,q⟩:=h; exact ⟨v,σ',H',J.unkp ok,r,q⟩
end
section
variable {X:Cx} {x n:Str} {c:Value} {i:Nat} {body suite rest:List Stmt} {b₀:Stmt} {np pos pos' : Pos} {tb:WX→TS} {u:TS} {tsu tr:Addr→Value→Option Addr→TS} {Wout:WX}
def PhiK (X:Cx) (pins:List (Addr × Obj)) (D:Ends) (u:TS) (tr:Addr→Value→Option Addr→TS) (f:Flow) (s1:Shared):Prop:=
 match f with
 | .next=>(∃ σ' H',Inv X pins σ' H' s1∧u D σ' H')∨(∃ (a:Addr) (oe:Obj) (cls:Value) (d:Option Addr) (σ' : St) (H' : Hp),Zc cls d oe∧(∃ vs,oe.data = .fields vs)∧Inv (X.kp ((a,oe)::(X.pn++pins))) [] σ' H' s1∧tr a cls d D σ' H')
 | f=>SP X pins D f s1
theorem pss_tryK (hs:X.stack=X.env::X.outer) (hf:X.env.frame=some X.env.locals) (hN:X.N.Nodup) (hi:X.N[i]? = some n) (hln:X.env.kindOf n=some .local) (hc:Names X x c) (tk:Takes X Wout)
  (hb:∀ (W:WX) (pn:List (Addr × Obj)) (xe:Value→Shared→Prop),Takes (X.tr pn xe) W→PassesOwn (model X.prog X.w) X.A X.env xe→PSs (X.tr pn xe) body (tb W))
  (hsu:∀ (a:Addr) (oe:Obj) (cls:Value) (d:Option Addr) (pn:List (Addr × Obj)),Zc cls d oe→(∃ vs,oe.data = .fields vs)→PSs (X.suite a ((a,oe)::pn)) (b₀::suite) (tsu a cls d))
  (hr0:PSs X rest u) (hr1:∀ (a:Addr) (oe:Obj) (cls:Value) (d:Option Addr) (pn:List (Addr × Obj)),Zc cls d oe→(∃ vs,oe.data = .fields vs)→PSs (X.kp ((a,oe)::pn)) rest (tr a cls d)) :
  PSs X (.Try body [.ExceptHandler (some (.Name x np)) (some n) (b₀::suite) pos'] [] [] pos::rest) (fun D σ H=>tb (wKeep X.K c i tsu tr Wout D) { D with nx:=u D } σ H):=by
 refine ⟨fun pins s σ H D I h=>?_⟩
 have ok:=I.ok
 refine wpAny_execs_cons (thn (Q:=PhiK X pins D u tr) ?_ fun f s1 q=>?_)
 ·have hfr:X.A.frames=some (X.env::X.outer):=by rw [ok.frames,hs]
  refine wpAny_Try_except ?_
  have body':=hb (wKeep X.K c i tsu tr Wout D) (X.pn++pins) (fun e s₁=>wpAny (model X.prog X.w) X.A (noteFrame e X.env) (fun _ s₂=>wpAny (model X.prog X.w) X.A (setFlight e none) (fun _ s₃=>
   wpAny (model X.prog X.w) X.A (handleBy e X.env [.ExceptHandler (some (.Name x np)) (some n) (b₀::suite) pos']) (PhiK X pins D u tr) X.xe s₃) X.xe s₂) X.xe s₁) ?caught PassesOwn.looking
  ·refine wpAny_mono (body'.run [] s σ H { D with nx:=u D } (I.toTry _) h) (fun f s1 hsp=>?_) (fun e s1 he=>he)
   cases f with
   | next=>obtain ⟨σ',H',J',q⟩:=hsp; exact wpAny_execs_nil (.inl ⟨σ',H',J'.ofTry ok,q⟩)
   | brk=>obtain ⟨σ',H',J',q⟩:=hsp; exact ⟨σ',H',J'.ofTry ok,q⟩
   | cont=>obtain ⟨σ',H',J',q⟩:=hsp; exact ⟨σ',H',J'.ofTry ok,q⟩
   | ret w=>obtain ⟨v,σ',H',J',r,q⟩:=hsp; exact ⟨v,σ',H',J'.ofTry ok,r,q⟩
  ·intro u' s' xx
   obtain ⟨a,B,sI,pins',σ',H',cls,d,rfl,J',nb,up,sky,na,os,ag,b,hb1,hyes,hno⟩:=xx
   have J:Inv X pins σ' H' sI:=J'.ofTry ok
   have sky' : Sky B (X.env::X.outer) a (Zc cls d) X.env.locals s'.heap:=by rw [← hs]; exact sky
   show wpAny (model X.prog X.w) X.A (noteFrame (.ref a) X.env) _ _ _
   refine Sky.land Zc.steady hfr hf sky' fun h3 fl3 up3=>?_
   have J3:Inv X pins σ' H' { s' with heap:=h3 }:=J.landed nb fl3.1 (up.trans up3) os ag
   obtain ⟨oe3,vs3,he3,hz3,hd3⟩:=fl3.there
   have nfr:a∉frs (X.env::X.outer):=fun hm=>by
    obtain ⟨_,o',e',hnf⟩:=fl3.2.2.1.mem hm
    rw [he3] at e'
    cases e'
    exact hnf _ hd3
   have nL:a≠X.env.locals:=fun z=>nfr (wbu.mpr ⟨X.env,waw,by rw [hf,z]⟩)
   have nF:a∉X.fs:=fun hm=>by
    obtain ⟨e,he,q⟩:=wbu.mp hm
    exact nfr (wbu.mpr ⟨e,waJ _ he,q⟩)
   have S3:=J3.suite he3 hd3 na nL nF
   refine wpAny_handleBy_cons (codeAny_handlers_test ?_) (by intro q; cases q)
   have LT:PySem.W.Looks (model X.prog X.w) h3 (typeOf (.ref a)) cls:=fun A Q E s k q=>wpAny_typeOf_ref (k _ _ he3) (by rw [hz3.1]; exact q)
   have LM:=PySem.W.exm_one (M:=model X.prog X.w) (J3.kIn) LT hb1
   have test:∀ {Q:Value→Shared→Prop} {E:Value→Shared→Prop},Q c { s' with heap:=h3 }→wpAny (model X.prog X.w) (X.A.mark (some (.ref a))) (eval (.Name x np) X.env) Q E { s' with heap:=h3 }:=fun {Q E} q=>by
    obtain ⟨hg,hdbg,hm | ⟨hm,hv,hnn⟩⟩:=hc
    ·exact ld_glob (X:=X.suite a ((a,oe3)::(X.pn++pins))) S3 hg hm q hdbg
    ·exact ld_blt (X:=X.suite a ((a,oe3)::(X.pn++pins))) S3 hg hm hv q hnn hdbg
   refine test (LM.here ?_)
   cases b with
   | false=>
    show wpAny _ X.A (handleBy (.ref a) X.env []) _ _ _
    refine wpAny_handleBy_nil ?_
    obtain ⟨k1,k2,k3,oe,vs,T,oT,ts',he,hz,hd,h1,hr⟩:=id fl3
    unfold PySem.passOn
    refine wpAny_bind (wpAny_field he hd h1 ?_)
    rw [if_neg (show ¬ ((Value.ref T == Value.none)=true) from by simp)]
    have fin:wpAny (model X.prog X.w) X.A (setFlight (.ref a) X.env.frame) (fun _ s4=>wpAny (model X.prog X.w) X.A (throw (.ref a):Sem Flow) (PhiK X pins D u tr) X.xe s4) X.xe { s' with heap:=h3 }:=by
     rw [hf]
     refine HandSPX.setFlight_upZ fl3 fun h4 hh4 up4=>wpAny_throw (tk _ _ ?_)
     exact ⟨a,B,sI,pins,σ',H',cls,d,rfl,J,nb,(up.trans up3).trans up4,.inr (.inr (by rw [hs]; exact hh4)),na,os,ag,hno rfl⟩
    first
     | exact wpAny_bind (wpAny_pure (wpAny_bind fin))
     | exact wpAny_bind fin
   | true=>
    refine codeAny_handlers_suite_as ?_
    refine HandSPX.lands_againZ fl3 fun h4 fl4 up4=>?_
    have J4:Inv X pins σ' H' { s' with heap:=h4 }:=J.landed nb fl4.1 ((up.trans up3).trans up4) os ag
    obtain ⟨oe4,vs4,he4,hz4,hd4⟩:=fl4.there
    have S4:=J4.suite he4 hd4 na nL nF
    refine store_ok (X:=X.suite a ((a,oe4)::(X.pn++pins))) (v:=.ref a) S4 hN hi (.inl hln) rfl (fun s5 S5=>?_) (.inr hln)
    refine wpAny_mono ((hsu a oe4 cls d (X.pn++pins) hz4 ⟨_,hd4⟩).run [] s5 _ H' _ S5 (hyes rfl a na)) (fun f s6 hsp=>?_) (fun _ _ z=>False.elim z)
    cases f with
    | next=>
     obtain ⟨σ6,H6,S6,q6⟩:=hsp
     exact gone_ok (X:=X.kp ((a,oe4)::(X.pn++pins))) (S6.kp ok) hN hi hln fun s7 J7=>.inr ⟨a,oe4,cls,d,_,H6,hz4,⟨_,hd4⟩,J7,q6⟩
    | brk=>obtain ⟨σ6,H6,S6,q6⟩:=hsp; exact q6.elim
    | cont=>obtain ⟨σ6,H6,S6,q6⟩:=hsp; exact q6.elim
    | ret w=>obtain ⟨v6,σ6,H6,S6,r6,q6⟩:=hsp; exact q6.elim
 ·cases f with
  | next=>
   rcases q with ⟨σ',H',J,q⟩ | ⟨a,oe,cls,d,σ',H',hz,hd,J,q⟩
   ·exact hr0.run pins s1 σ' H' D J q
   ·exact wpAny_mono ((hr1 a oe cls d (X.pn++pins) hz hd).run [] s1 σ' H' D J q) (fun f s2 h2=>SP.unkp h2 ok) (fun _ _ z=>z)
  | ret v=>exact q
  | brk=>exact q
  | cont=>exact q
end
end L2
namespace TT
open PySem PySem.Spec PyProof.Rows L2
variable [TabI]
def keepO (i:Nat) (rest:S) (o:O):O:=match o with
 | .nx ρ m=>endX none (rest (ρ.set i none) m)
 | _=>.bad
def sTryK (t:XTab) (d:Str) (i:Nat) (b su rest:S):S:=fun ρ m=>match b ρ m with
 | .nx ρ m=>rest ρ m
 | .exc (.exc c fs) ρ1 m1=>(match t.lookup (c,d) with
  | some true=>keepO i rest (su (ρ1.set i (some (.exc c fs))) m1)
  | some false=>.exc (.exc c fs) ρ1 m1
  | none=>.bad)
 | .exc _ _ _=>.bad
 | o=>o
section
variable {X:Cx} {c:Ct} {G:Hp} {μ:List Addr} {ρ:Ev} {m:Mem} {σ:L2.St} {H:Hp}
def KeptY (X:Cx) (c:Ct):Prop:=c.xo=none∨∃ (a:Addr) (oe:Obj) (D:Addr) (dd:Option Addr),Zc (.ref D) dd oe∧(∃ vs,oe.data = .fields vs)∧ExcC X.K D∧c.xo=some (a,.ref D,dd)∧(a,oe)∈X.pn
theorem PostS.tryK {t:XTab} {d:Str} {i:Nat} {b su re:S} {D:Ends} {wx:WX} (hxo:c.xo=none)
  (h:PostS c G μ D (sTryK t d i b su re ρ m))
  (hy:∀ cn fs ρ1 m1 cc dd σ H G' μ',t.lookup (cn,d)=some true→PostS c G' μ' D (keepO i re (su (ρ1.set i (some (.exc cn fs))) m1))→Sim c G' μ' ρ1 m1 σ H→ExcAt c.mg (.exc cn fs) cc dd G'→wx cc dd σ H)
  (hn:∀ cn fs ρ1 m1 cc dd σ H G' μ',t.lookup (cn,d)=some false→PostS c G' μ' D (.exc (.exc cn fs) ρ1 m1)→Sim c G' μ' ρ1 m1 σ H→ExcAt c.mg (.exc cn fs) cc dd G'→wx cc dd σ H) :
  PostS { c with W:=wx } G μ { D with nx:=rS c re D } (b ρ m):=by
 unfold sTryK at h
 have down:∀ {G' μ' ρ m σ H},Sim { c with W:=wx } G' μ' ρ m σ H→Sim c G' μ' ρ m σ H:=fun S=>S.ofW
 cases e:b ρ m with
 | nx ρ1 m1=>
  rw [e] at h
  exact fun σ H G' μ' S g=>⟨ρ1,m1,G',μ',down S,PostS.weak h g⟩
 | bk ρ1 m1=>rw [e] at h; exact fun σ H G' μ' S g=>h σ H G' μ' (down S) g
 | ct ρ1 m1=>rw [e] at h; exact fun σ H G' μ' S g=>h σ H G' μ' (down S) g
 | rt dd m1=>rw [e] at h; exact fun v H G' μ' S g=>h v H G' μ' (MemOk.ct (c:={ c with W:=wx }) (c':=c) rfl rfl rfl rfl rfl rfl S) g
 | bad=>rw [e] at h; exact h
 | exc x ρ1 m1=>
  rw [e] at h
  cases x with
  | exc cn fs=>
   simp only at h
   intro cc dd σ H G' μ' S g x1
   cases el:t.lookup (cn,d) with
   | none=>rw [el] at h; exact h.elim
   | some bb=>
    rw [el] at h
    cases bb with
    | false=>exact hn cn fs ρ1 m1 cc dd σ H G' μ' el (PostS.weak h g) (down S) x1
    | true=>exact hy cn fs ρ1 m1 cc dd σ H G' μ' el (PostS.weak h g) (down S) x1
  | _=>exact h.elim
theorem PostS.keep {D:Ends} {x:XO} {i:Nat} {re:S} {o:O} {tr:TS} (ht:∀ σ H,rS (c.sx x fun _ _ _ _=>False) re D σ H→tr D σ H) (h:PostS c G μ D (keepO i re o)) :
  PostS (c.sx x fun _ _ _ _=>False) G μ { nx:=fun σ' H'=>tr D (σ'.set i none) H',rt:=fun _ _=>False,bk:=fun _ _=>False,ct:=fun _ _=>False } o:=by
 cases o with
 | nx ρ m=>
  intro σ H G' μ' S g
  refine ht _ _ ⟨ρ.set i none,m,G',μ',S.clear,?_⟩
  exact (PostS.weak (show PostS c G μ D (endX none (re (ρ.set i none) m)) from h) g).sxEnd0
 | bk ρ m=>exact h.elim
 | ct ρ m=>exact h.elim
 | rt d m=>exact h.elim
 | exc e ρ m=>exact h.elim
 | bad=>exact h.elim
theorem Fit.kp {k:Nat} {x:XO} (F:Fit X c k) (pn:List (Addr × Obj)):Fit (X.kp pn) (c.sx x fun _ _ _ _=>False) k:=
 ⟨F.K,F.mg,F.w,F.calm,fun e s h=>by
  obtain ⟨a,B,sI,pins,σ,H,cls,d,_,_,_,_,_,_,_,_,q⟩:=h
  exact q.elim,F.po,F.rm,F.nd⟩
end
end TT
namespace L2
open PySem PySem.Spec PyProof.Rows
section
variable {X:Cx} {a D:Addr} {oe:Obj} {dd:Option Addr}
theorem inst_of {pins:List (Addr × Obj)} {σ:St} {H:Hp} {s:Shared} (I:Inv X pins σ H s) (hp:(a,oe)∈X.pn) (hz:Zc (.ref D) dd oe) (hf:∃ vs,oe.data = .fields vs) (hdd:∀ dx,dd=some dx→∃ fv,H dx=some (.xd fv)):∃ od,PySem.W.InstAt s.heap a oe D od:=by
 obtain ⟨hget,hpin⟩:=I.pin (a,oe) (wau.mpr (.inl hp))
 obtain ⟨vs,hv⟩:=hf
 obtain ⟨oc,od,oda,osl⟩:=oe
 obtain ⟨h1,h2⟩:=hz
 dsimp only at h1 h2 hv
 subst h1 h2 hv
 cases od with
 | none=>exact ⟨none,hget,rfl,rfl,trivial⟩
 | some dx=>
  obtain ⟨fv,hH⟩:=hdd dx rfl
  obtain ⟨mA,hns,_⟩:=(show ObjOk X.prog X.w H s.heap dx (.xd fv) from I.hok dx _ hH)
  obtain ⟨o,ho,_⟩:=lookIn_ns hns
  exact ⟨some o,hget,rfl,rfl,ho⟩
theorem hcl_of {K:PySem.W.Frag} (C:ExcC K D):(PySem.W.clsIn K D).isSome=true:=by
 have:=C.hd
 unfold PySem.W.hasDictIn at this
 cases hq:PySem.W.clsIn K D with
 | none=>rw [hq] at this; cases this
 | some _=>rfl
theorem call_isK (C:ExcC X.K D) (hz:Zc (.ref D) dd oe) (hf:∃ vs,oe.data = .fields vs) (hp:(a,oe)∈X.pn):CallR X (.builtin "isinstance") (TT.rIsE2 X.K D a dd):=by
 intro pins s σ H xs us Q I r h
 obtain ⟨hdd,c,cv,b,rfl,hcv,e,q⟩:=h
 cases r with
 | cons rx rr=>
  cases rr with
  | cons rt rr=>
   cases rr
   cases rx
   have ec:=hcv _ rt
   subst ec
   obtain ⟨od,J⟩:=inst_of I hp hz hf hdd
   exact PySem.W.kia_one (PySem.W.kitx_exc (od:=od) (hcl_of C) C.hg C.hk C.hs C.ha C.hn C.ht C.hm) I.kIn J e (fun z=>nomatch z) fun tk=>⟨.bl b,H,I.kept (t':=tk) fun _ _ z=>z,rfl,q⟩
theorem call_no {id:Value}:CallR X id (fun _ _ _=>False):=fun _ _ _ _ _ _ _ _ _ h=>h.elim
end
end L2
namespace TT
open PySem PySem.Spec PyProof.Rows L2
variable [TabI]
section
variable {X:Cx} {c:Ct} {G:Hp} {μ:List Addr} {ρ:Ev} {m:Mem} {σ:L2.St} {H:Hp}
theorem qix {t:XTab} (hx:c.xo=none):FunSim c (dIsX t) (fun _ _ _=>False):=by
 intro G μ ρ m σ H xs us d Q S rs e k
 unfold dIsX at e
 split at e
 ·rename_i cn fs dn he
  obtain ⟨x,y,rfl,hx1,hy1⟩:=map2 he
  obtain ⟨u,v,rfl,r,r'⟩:=rep2 rs
  have ex:x = .exc cn fs:=qam hx1 (by simp) (by simp) (by simp)
  subst ex
  cases r with
  | exc h1 h2=>rw [hx] at h1; cases h1
 ·rename_i cn fs n he
  obtain ⟨x,y,rfl,hx1,hy1⟩:=map2 he
  obtain ⟨u,v,rfl,r,r'⟩:=rep2 rs
  have ex:x = .exc cn fs:=qam hx1 (by simp) (by simp) (by simp)
  subst ex
  cases r with
  | exc h1 h2=>rw [hx] at h1; cases h1
 ·cases e
theorem qca {e1 e2:Expr} {t:XTab} {l:EL} {k:Nat} {p pos:Pos} (T:XTok X.K X.mg t) (Y:KeptY X c) (F:Fit0 X c k) (hm:X.mg "isinstance" = none)
  (ha:PA X [e1,e2] (rL c l)) (hg:Gl X "isinstance":=by rfl)
  (hst:starEach [e1,e2] X.env=(false,eval e1 X.env)::starEach [e2] X.env:=by rfl) (hpl:(backTo pos (starEach [e2] X.env)).any (·.1)=false:=by rfl) :
  PE X (.Call (.Name "isinstance" p) [e1,e2] [] pos) (rE c (eFun (dIsX t) l)):=by
 rcases Y with h | ⟨a,oe,D,dd,hz,hf,C,hx,hp⟩
 ·exact qcn (r:=fun _ _ _=>False) (call_no (id:=.builtin "isinstance")) (qix h) hg hm (by decide +kernel) ha (by decide) (by decide) hst hpl
 ·exact qcn (r:=rIsE2 c.K D a dd) (by rw [F.K]; exact call_isK C hz hf hp) (qkr (by rw [F.K,F.mg]; exact T) hx) hg hm (by decide +kernel) ha (by decide) (by decide) hst hpl
end
end TT
namespace L2
open PySem PySem.Spec PyProof.Rows
section
variable {X:Cx} {x:Str} {j:Nat} {e:Expr} {rest:List Stmt} {pos pos' : Pos} {t:St→Hp→XK→Prop} {tr:Addr→Value→Option Addr→TS}
end
end L2
namespace TT
open PySem PySem.Spec PyProof.Rows L2
variable [TabI]
section
variable {X:Cx} {c:Ct} {G:Hp} {μ:List Addr} {ρ:Ev} {m:Mem} {σ:L2.St} {H:Hp}
end
end TT

set_option maxHeartbeats 2000000
namespace TT
open PySem PySem.Spec PyProof.Rows L2
variable [TabI]
section
variable {X:Cx} {c:Ct} {G:Hp} {μ:List Addr} {ρ:Ev} {m:Mem} {σ:L2.St} {H:Hp}
end
end TT

set_option maxHeartbeats 2000000
namespace TT
open PySem PySem.Spec PyProof.Rows L2
variable [TabI]
def mCount:D→List D→Option D
 | .lst xs,[y]=>if isData (.lst xs)=true∧isData y=true then some (.int ((xs.countP fun x=>eqvD x y:Nat):Int)) else none
 | _,_=>none
section
variable {X:Cx} {c:Ct} {G:Hp} {μ:List Addr} {ρ:Ev} {m:Mem} {σ:L2.St} {H:Hp}
def rCountD (K:PySem.W.Frag):V→List V→Hp→VK→Prop:=fun x xs H Q=>∃ (a:Addr) (y:V) (d:PyData) (ds:List PyData),x=V.ref a∧xs=[y]∧Dp K H (V.ref a) (.list ds)∧Dp K H y d ∧
 SeqAt.shaped (.list ds)=true∧SeqAt.shaped d=true∧Q (.int ((ds.countP fun z=>PyData.eqv z d:Nat):Int)) H
theorem qhd (hu:X.A.units+65 < cLine):MtR X "list.count" (rCountD X.K):=by
 intro pins s σ H x xs v us Q I rx rxs h
 obtain ⟨a,y,d,ds,rfl,rfl,hl,hy,sl,sd,q⟩:=h
 cases rx
 cases rxs with
 | cons ry rt=>
  rename_i uy ut
  cases rt
  obtain ⟨bs,r1⟩:=Dp.reads I d y uy hy ry
  have hxs:PyData.canLayAll0 ds=true:=SeqAt.canLay_of_shaped sl
  have hroom:X.A.units+1+min (PyData.depthAll ds) d.depth < cLine:=room_in_shaped sd hu
  cases hl with
  | lst hs ha=>
   obtain ⟨its,rv,⟨⟨cls,dd,data,sls⟩,n,ho,hc,hdn,hdt⟩,hlen⟩:=I.list hs
   simp only at hc hdt
   subst hc hdt
   obtain ⟨as,h4⟩:=Dp.readsAll I ds _ its ha rv
   have hmap:its.map (SeqAt.readOf s.heap)=ds:=SeqAt.readsAll_map ds its as hxs h4
   refine call_meets PySem.F.slot_list_count ⟨_,ho,rfl⟩ PySem.F.entry_list_count (PySem.F.args_list_count_2 _ _)
    (SeqAt.list_countAt a its.toArray n dd sls uy (fun u=>PyData.eqv (SeqAt.readOf s.heap u) d)) ⟨ho,SeqAt.items_eqAt (vs:=its.toArray) (show ReadsAll s.heap its.toArray.toList ds as from h4) r1 hxs (SeqAt.canLay_of_shaped sd) hroom,?_⟩
   refine ⟨.int ((ds.countP fun z=>PyData.eqv z d:Nat):Int),H,I.tok _,⟨s.toks,?_⟩,q⟩
   have e:its.toArray.toList.countP (fun u=>PyData.eqv (SeqAt.readOf s.heap u) d)=ds.countP fun z=>PyData.eqv z d:=by
    rw [← hmap,List.countP_map]
    rfl
   show Value.int ((its.toArray.toList.countP (fun u=>PyData.eqv (SeqAt.readOf s.heap u) d):Nat):Int) s.toks=_
   rw [e]
theorem qhe {x:D} (h:isData x=true):∀ {ys:List D},ys.all (dataN 15)=true→(toPyL ys).countP (fun z=>PyData.eqv z (toPy x))=ys.countP fun y=>eqvD y x:=by
 intro ys
 induction ys with
 | nil=>intro _; rfl
 | cons y ys ih=>
  intro hy
  have hy' : dataN 15 y=true∧ys.all (dataN 15)=true:=by simpa using hy
  have e:toPyL (y::ys)=toPy y::toPyL ys:=by simp [toPyL]
  rw [e,List.countP_cons,List.countP_cons,ih hy'.2,qdp 15 16 y x hy'.1 h]
theorem qhf:MethSim c "list" mCount (rCountD c.K):=by
 intro G μ ρ m σ H x u xs us d Q S r rs e k
 generalize e1:view m x=x' at e
 unfold mCount at e
 split at e
 ·rename_i ys y he
  obtain ⟨z,rfl,hz⟩:=map1 he
  obtain ⟨w,rfl,rz⟩:=rep1 rs
  split at e
  ·rename_i hd
   cases e
   obtain ⟨a1,a2⟩:=qbF S.mem r e1 hd.1
   obtain ⟨b1,b2⟩:=qbF S.mem rz hz hd.2
   obtain ⟨p,vs,eu,hp,rp⟩:=qbm S.mem r e1
   subst eu
   have:=qhe hd.2 (ys:=ys) (by simpa [isData,dataN] using hd.1)
   exact ⟨p,w,toPy y,toPyL ys,rfl,rfl,a1,b1,a2,b2,by rw [this]; exact k _ _ _ _ S (.int _) Gr.refl⟩
  ·cases e
 ·cases e
theorem qiy {k:Nat} {o e:Expr} {fo:E} {l:EL} {apos cpos:Pos} (F:Fit X c k) (ho:PE X o (rE c fo)) (ha:PA X [e] (rL c l))
  (hbase:attributeBase o "count" X.env (eval o X.env)=eval o X.env:=by rfl)
  (hfew:((backTo cpos (starEach [e] X.env)).all (fun x=>!x.1) && (backToKw cpos (keywordEach [] X.env)).all (fun x=>x.1.isSome)
   && decide ([e].length+([]:List Keyword).length+(if ([]:List Keyword).isEmpty then 0 else 1) < 30))=true:=by rfl)
  (hline:(apos.endLine == cpos.line)=true:=by rfl) (hst:starEach [e] X.env=(false,eval e X.env)::starEach [] X.env:=by rfl) (hpl:(backTo cpos (starEach [] X.env)).any (·.1)=false:=by rfl) :
  PE X (.Call (.Attribute o "count" apos) [e] [] cpos) (rE c (eMeth "list" mCount fo l)):=
 qeK F PySem.F.plainAttrs_list PySem.F.slot_list_count PySem.F.type_list_count (.inr rfl) (by rw [F.K]; exact qhd (by have:=F.rm.un; omega)) qhf ho ha hbase hfew hline hst hpl
abbrev rIdxF:V→List V→Hp→VK→Prop:=fun x xs H Q=>∃ (a b:Str) (i:Int) (k:Nat) (r:List Nat),x = .str a∧xs=[.str b,.int i]∧Builtin.Str.occurrences a b (PySem.fromIndex a.length i) a.length 1=k::r∧Q (.int (k:Nat)) H
end
end TT

set_option maxHeartbeats 2000000
namespace TT
open PySem PySem.Spec PyProof.Rows L2
variable [TabI]
section
variable {K:PySem.W.Frag} {mg:Str→Option Value} {xo xo' : XO} {G:Hp} {μ μ' : List Addr} {P:Addr→Prop}
open Classical
end
section
variable {X:Cx} {c:Ct} {G G' : Hp} {μ μ' : List Addr} {ρ:Ev} {m:Mem} {σ:L2.St} {H:Hp}
end
end TT

set_option maxHeartbeats 2000000
namespace TT
open PySem PySem.Spec PyProof.Rows L2
variable [TabI]
section
variable {X:Cx}
end
section
variable {X:Cx} {c:Ct} {G:Hp} {μ:List Addr} {ρ:Ev} {m:Mem} {σ:L2.St} {H:Hp}
end
end TT

set_option maxHeartbeats 2000000
namespace L2
open PySem PySem.Spec PyProof.Rows
def NKey (H:Hp) (k:NestedKey) (b:Addr):Prop:=k.depth≤8∧∀ (P:Program) (w:World) (h:Heap),HOk P w H h→NestedIs h k (.ref b)
abbrev NKeys (H:Hp) (xs:List (NestedKey × Addr × Value)):Prop:=∀ x∈xs,NKey H x.1 x.2.1
abbrev NR (w:World):=TT.dnO w
section
variable {P:Program} {w:World} {H:Hp} {h:Heap} {a b:Addr} {k:NestedKey} {xs:List (NestedKey × Addr × Value)}
theorem NKey.is (ok:HOk P w H h) (n:NKey H k b):(nestedKind P w).is h k b:=⟨n.2 P w h ok,n.1⟩
end
section
variable {X:Cx} {pins:List (Addr × Obj)} {σ:St} {H:Hp} {s:Shared} {a:Addr} {y v:V} {u r:Value} {o:Option V} {A:Around} {E:Value→Shared→Prop}
end
section
variable {X:Cx} {o i e value:Expr} {pos pos' tpos:Pos} {td ty tv:TE}
end
end L2
namespace TT
open PySem PySem.Spec PyProof.Rows L2
variable [TabI]
section
variable {X:Cx} {c:Ct} {G:Hp} {μ:List Addr} {ρ:Ev} {m:Mem} {σ:L2.St} {H:Hp}
mutual
theorem qhg:∀ d e:D,keyD d=true→keyD e=true→eqvD d e=NestedKey.beq (nkey d) (nkey e)
 | .int i,.int j,_,_=>by simp only [eqvD,nkey,NestedKey.beq]; rw [wa1]; simp
 | .int i,.str s,_,_=>rfl
 | .int i,.tup xs,_,_=>rfl
 | .str s,.int i,_,_=>rfl
 | .str s,.str t,_,_=>by simp only [eqvD,nkey,NestedKey.beq]; rw [wa1]; simp
 | .str s,.tup xs,_,_=>rfl
 | .tup xs,.int i,_,_=>rfl
 | .tup xs,.str i,_,_=>rfl
 | .tup xs,.tup ys,h,h'=>by
  simp only [eqvD,nkey,NestedKey.beq]
  exact qfM xs ys (by simpa [keyD] using h) (by simpa [keyD] using h')
 | .non,_,h,_ | .bl _,_,h,_ | .lst _,_,h,_ | .dct _,_,h,_ | .obj _ _,_,h,_ | .exc _ _,_,h,_ | .cls _,_,h,_ | .ty _,_,h,_ | .loc _,_,h,_=>by simp [keyD] at h
 | .int _,.non,_,h | .int _,.bl _,_,h | .int _,.lst _,_,h | .int _,.dct _,_,h | .int _,.obj _ _,_,h | .int _,.exc _ _,_,h | .int _,.cls _,_,h | .int _,.ty _,_,h | .int _,.loc _,_,h=>by simp [keyD] at h
 | .str _,.non,_,h | .str _,.bl _,_,h | .str _,.lst _,_,h | .str _,.dct _,_,h | .str _,.obj _ _,_,h | .str _,.exc _ _,_,h | .str _,.cls _,_,h | .str _,.ty _,_,h | .str _,.loc _,_,h=>by simp [keyD] at h
 | .tup _,.non,_,h | .tup _,.bl _,_,h | .tup _,.lst _,_,h | .tup _,.dct _,_,h | .tup _,.obj _ _,_,h | .tup _,.exc _ _,_,h | .tup _,.cls _,_,h | .tup _,.ty _,_,h | .tup _,.loc _,_,h=>by simp [keyD] at h
theorem qfM:∀ ds es:List D,keyDs ds=true→keyDs es=true→eqvL ds es=NestedKey.beqAll (nkeys ds) (nkeys es)
 | [],[],_,_=>rfl
 | [],_::_,_,_=>rfl
 | _::_,[],_,_=>rfl
 | d::ds,e::es,h,h'=>by
  simp only [keyDs,wac] at h h'
  simp only [eqvL,nkeys,NestedKey.beqAll,qhg d e h.1 h'.1,qfM ds es h.2 h'.2]
end
theorem qjp {d:D} (h:keyN d=true):keyD d=true∧keyH d≤8:=by
 cases d with
 | tup xs=>
  simp only [keyN,wac,decide_eq_true_eq] at h
  exact ⟨by simpa [keyD] using h.1,by simpa [keyH] using h.2⟩
 | _=>cases h
theorem qcP {d e:D} (h:keyN d=true) (h' : keyN e=true):eqvD d e=decide (nkey d=nkey e):=by
 rw [qhg d e (qjp h).1 (qjp h').1,NestedKey.decide_eq]
theorem RepN.length {K:PySem.W.Frag} {mg:Str→Option Value} {xo:XO}:∀ {ps:List (D × D)} {xs:List (NestedKey × Addr × Value)},RepN K mg xo G μ ps xs→ps.length=xs.length
 | _,_,.nil=>rfl
 | _,_,.cons _ _ _ _ t=>by rw [wab,wab,RepN.length t]
theorem RepN.val {K:PySem.W.Frag} {mg:Str→Option Value} {xo:XO} {k:D} (hk:keyN k=true):∀ {ps:List (D × D)} {xs:List (NestedKey × Addr × Value)},RepN K mg xo G μ ps xs →
  (∃ r:Option V,RelO r ((atKey xs (nkey k)).map (·.2))∧(getP ps k).isSome=r.isSome∧∀ d,getP ps k=some d→∃ v,r=some v∧Rep K mg xo G μ d v)
 | _,_,.nil=>⟨none,trivial,rfl,fun _ h=>by cases h⟩
 | _,_,.cons (d:=d) (e:=e) (b:=b) (v:=v) (u:=u) (ps:=ps) (xs:=xs) h q r l t=>by
  obtain ⟨o,h1,h2,h3⟩:=RepN.val hk t
  have ed:=qcP h hk
  by_cases z:nkey d=nkey k
  ·have e1:getP ((d,e)::ps) k=some e:=by
    unfold getP
    rw [waM]
    simp [ed,z]
   have e2:atKey ((nkey d,b,u)::xs) (nkey k)=some (b,u):=by
    unfold atKey
    rw [waM]
    simp [z]
   exact ⟨some v,by rw [e2]; exact l,by rw [e1]; rfl,fun d' hd=>by rw [e1] at hd; cases hd; exact ⟨v,rfl,r⟩⟩
  ·have e1:getP ((d,e)::ps) k=getP ps k:=by
    unfold getP
    rw [waM]
    simp [ed,z]
   have e2:atKey ((nkey d,b,u)::xs) (nkey k)=atKey xs (nkey k):=by
    unfold atKey
    rw [waM]
    simp [z]
   exact ⟨o,by rw [e2]; exact h1,by rw [e1]; exact h2,fun d' hd=>h3 d' (by rw [e1] at hd; exact hd)⟩
theorem RepN.any {K:PySem.W.Frag} {mg:Str→Option Value} {xo:XO} {k:D} (hk:keyN k=true):∀ {ps:List (D × D)} {xs:List (NestedKey × Addr × Value)},RepN K mg xo G μ ps xs→(ps.any fun p=>eqvD p.1 k)=(atKey xs (nkey k)).isSome
 | _,_,.nil=>rfl
 | _,_,.cons (d:=d) (e:=e) (b:=b) (v:=v) (u:=u) (ps:=ps) (xs:=xs) h q r l t=>by
  rw [waX,RepN.any hk t,qcP h hk]
  unfold atKey
  rw [waM]
  by_cases z:nkey d=nkey k
  ·simp [z]
  ·simp [z]
theorem RepN.append {K:PySem.W.Frag} {mg:Str→Option Value} {xo:XO}:∀ {ps qs:List (D × D)} {xs ys:List (NestedKey × Addr × Value)},RepN K mg xo G μ ps xs→RepN K mg xo G μ qs ys→RepN K mg xo G μ (ps++qs) (xs++ys)
 | _,_,_,_,.nil,s=>s
 | _,_,_,_,.cons h q r l t,s=>.cons h q r l (RepN.append t s)
theorem RepN.repl {K:PySem.W.Frag} {mg:Str→Option Value} {xo:XO} {k y:D} {v:V} {u:Value} (hk:keyN k=true) (rv:Rep K mg xo G μ y v) (ru:RelV v u):∀ {ps:List (D × D)} {xs:List (NestedKey × Addr × Value)},RepN K mg xo G μ ps xs →
  RepN K mg xo G μ (ps.map fun p=>if eqvD p.1 k=true then (p.1,y) else p) (xs.map (PySem.putAt (nkey k) u))
 | _,_,.nil=>.nil
 | _,_,.cons (d:=d) (e:=e) (b:=b) (u:=u0) (ps:=ps) (xs:=xs) h q r l t=>by
  have ed:=qcP h hk
  rw [wah,wah]
  by_cases z:nkey d=nkey k
  ·have e1:PySem.putAt (nkey k) u (nkey d,b,u0)=(nkey d,b,u):=if_pos z
   rw [e1]
   simp only [ed,z,decide_true,if_true]
   rw [← z]
   exact .cons h q rv ru (z ▸ RepN.repl hk rv ru t)
  ·have e1:PySem.putAt (nkey k) u (nkey d,b,u0)=(nkey d,b,u0):=if_neg z
   rw [e1]
   simp only [ed,z,decide_false,if_false,waG]
   exact .cons h q r l (RepN.repl hk rv ru t)
theorem RepN.put {K:PySem.W.Frag} {mg:Str→Option Value} {xo:XO} {k y:D} {b:Addr} {v:V} {u:Value} (hk:keyN k=true) (rk:Rep K mg xo G μ k (.ref b)) (rv:Rep K mg xo G μ y v) (ru:RelV v u) {ps:List (D × D)} {xs:List (NestedKey × Addr × Value)} (h:RepN K mg xo G μ ps xs) :
  RepN K mg xo G μ (putP ps k y) (storedH xs (nkey k) b u):=by
 unfold putP storedH
 rw [h.any hk]
 split
 ·exact h.repl hk rv ru
 ·exact h.append (.cons hk rk rv ru .nil)
variable {a b o i v:Expr} {fa fb fo fi fv:E} {pos pos' : Pos} {k:Nat}
end
end TT

set_option maxHeartbeats 2000000
namespace TT
end TT
namespace SrtT
open PySem PySem.Spec PyProof.Rows SrtO TS
variable {prog:Program} {w:World} {A:Around} {E:Value→Shared→Prop} {s:Shared} {Q:Bool→Shared→Prop}
abbrev ltv (k:Value→List Int) (v u:Value):Bool:=TT.ltL (k v) (k u)
abbrev Tups (h:Heap) (k:Value→List Int) (vs:List Value):Prop:=∀ v∈vs,TupInts h v (k v)
end SrtT
namespace L2
open PySem PySem.Spec PyProof.Rows
def TupK (H:Hp) (b:Addr) (ns:List Int):Prop:=∀ (P:Program) (w:World) (h:Heap),HOk P w H h→TS.TupInts h (.ref b) ns
theorem TupK.of {H:Hp} {b:Addr} {ns:List Int} (h:H b=some (.tup (ns.map V.int))):TupK H b ns:=fun P w hp ok=>by
 obtain ⟨_,its,r,o,h1,h2,n,h3⟩:=(show ObjOk P w H hp b (.tup (ns.map V.int)) from ok b _ h)
 refine ⟨b,its.toArray,rfl,⟨o,h1,h2,n,h3⟩,?_⟩
 have:∀ {us:List Value} {ms:List Int},Vals (ms.map V.int) us→IntsAre us ms:=by
  intro us ms q
  induction ms generalizing us with
  | nil=>cases q; exact .nil
  | cons m ms ih=>cases q with
   | cons a t=>obtain ⟨t',rfl⟩:=a; exact .cons m t' (ih t)
 simpa using this r
section
variable {X:Cx}
end
end L2

set_option maxHeartbeats 2000000
namespace TT
open PySem PySem.Spec PyProof.Rows L2
variable [TabI]
section
variable {X:Cx} {c:Ct} {G:Hp} {μ:List Addr} {ρ:Ev} {m:Mem} {σ:L2.St} {H:Hp}
variable {o:Expr} {fo:E} {pos:Pos} {k:Nat}
end
end TT

set_option maxHeartbeats 2000000
namespace L2
open PySem PySem.Spec PyProof.Rows
end L2
namespace TT
open PySem PySem.Spec PyProof.Rows L2
variable [TabI]
section
variable {X:Cx} {c:Ct} {G:Hp} {μ:List Addr} {ρ:Ev} {m:Mem} {σ:L2.St} {H:Hp}
def Alive (G H:Hp) (a:Addr) (ce:Cell):Prop:=ce≠.dead→∃ o,H a=some o∧G a=some o∧∀ C dx fv,o = .ins C dx fv→∃ o',H dx=some o'∧G dx=some o'
theorem Alive.mono {G G' H:Hp} {a:Addr} {ce:Cell} (s:Same G G') (h:Alive G H a ce):Alive G' H a ce:=fun n=>by
 obtain ⟨o,h1,h2,h3⟩:=h n
 exact ⟨o,h1,s _ _ h2,fun C dx fv e=>let ⟨o',h4,h5⟩:=h3 C dx fv e; ⟨o',h4,s _ _ h5⟩⟩
end
end TT

set_option maxHeartbeats 2000000
namespace TT
open PySem PySem.Spec PyProof.Rows L2
variable [TabI]
section
variable {X:Cx} {c:Ct} {G:Hp} {μ:List Addr} {ρ:Ev} {m:Mem} {σ:L2.St} {H:Hp} {a b:Expr} {fa fb:E} {pos:Pos} {k:Nat}
end
end TT

set_option maxHeartbeats 3200000
namespace L2
open PySem PySem.Spec PyProof.Rows
section
variable {P:Program} {w:World} {A:Around} {E:Value→Shared→Prop} {s:Shared}
abbrev setNew (w:World):Obj:={ cls:=.type "set",dict:=none,data:=.set #[] 0 (.fresh 0 0 (!w.params.followText "set-order")) }
end
section
variable {X:Cx}
end
end L2
namespace TT
open PySem PySem.Spec PyProof.Rows L2
variable [TabI]
section
variable {X:Cx} {c:Ct} {G:Hp} {μ:List Addr} {ρ:Ev} {m:Mem} {σ:L2.St} {H:Hp}
end
end TT

set_option maxHeartbeats 2000000
namespace TT
open PySem PySem.Spec PyProof.Rows L2
variable [TabI]
section
variable {X:Cx} {c:Ct} {G:Hp} {μ:List Addr} {ρ:Ev} {m:Mem} {σ:L2.St} {H:Hp}
end
end TT

set_option maxHeartbeats 2000000
namespace TT
open PySem PySem.Spec PyProof.Rows L2
variable [TabI]
section
variable {X:Cx} {c:Ct} {G:Hp} {μ:List Addr} {ρ:Ev} {m:Mem} {σ:L2.St} {H:Hp} {a b a2 b2 o i:Expr} {fa fb fa2 fb2 fo fi:E} {pos p p2 pos2:Pos} {k:Nat}
end
end TT

set_option maxHeartbeats 2000000
namespace TT
open PySem PySem.Spec PyProof.Rows L2
variable [TabI]
def eLstRange (a:E):E:=fun ρ m=>(a ρ m).bind fun x m=>match x with
 | .int n=>if 0≤n∧n≤16777216 then .ok (.lst (dRange n)) m else .bad
 | _=>.bad
def eExtend (o a:E):E:=fun ρ m=>(o ρ m).bind fun x m=>if tyIs "list" (view m x)=some true then (a ρ m).bind fun y m=>(match x,y with
 | .loc n,.loc k=>(match m[n]?,m[k]? with
  | some (.lst xs),some (.lst ys)=>if xs.length+ys.length≤LN then .ok .non (m.set n (.lst (xs++ys))) else .bad
  | _,_=>.bad)
 | _,_=>.bad) else .bad
def sortK (ps:List (D × D)):Option (List D):=(dStrs (ps.map (·.1))).bind fun ks=>if ks.length < 64 then some ((ks.mergeSort leS).map D.str) else none
def sortPS (x:D) (m:Mem):Option (List D):=match x with
 | .loc n=>(match m[n]? with
  | some (.dct ps)=>sortK ps
  | _=>none)
 | .dct ps=>sortK ps
 | _=>none
def eSortPS (M:Bool) (o:E):E:=fun ρ m=>(o ρ m).bind fun x m=>(R.of m (sortPS x m)).bind fun ys m=>mkL M ys m
section
variable {X:Cx} {c:Ct} {G:Hp} {μ:List Addr} {ρ:Ev} {m:Mem} {σ:L2.St} {H:Hp} {a b o:Expr} {fa fo:E} {pos p p2 pos2:Pos} {k:Nat}
theorem RepP.strs {K:PySem.W.Frag} {mg:Str→Option Value} {xo:XO}:∀ {ps:List (D × D)} {kvs:List (Key × V)} {ks:List Str},RepP K mg xo G μ ps kvs→dStrs (ps.map (·.1))=some ks→kvs.map (·.1)=ks.map Sum.inr∧∀ k∈ks,okS k=true
 | _,_,_,.nil,e=>by cases e; exact ⟨rfl,fun k h=>by cases h⟩
 | _,_,_,.int r t,e=>by cases e
 | _,_,_,.str (s:=s) o r t,e=>by
  obtain ⟨k,e1,rfl⟩:=wad.mp e
  obtain ⟨h1,h2⟩:=RepP.strs t e1
  refine ⟨by rw [wah,wah,h1],fun k hk=>?_⟩
  rcases wat.mp hk with rfl | hk
  ·exact o
  ·exact h2 k hk
end
end TT

namespace TT
open PySem
section
variable {ρ ρ1 ρ2:Ev} {m m1 m2 m3 m4:Mem} {a b c:E} {l:EL} {t u:ET} {x y z d:D}
theorem qal {i:Nat} (h:ρ[i]? = some (some d)):eVar i ρ m = .ok d m:=by rw [qds,h]
theorem z_c:eC d ρ m = .ok d m:=rfl
theorem z_op {g:D→D→Option D} (ha:a ρ m = .ok x m1) (hb:b ρ m1 = .ok y m2) (hg:g (view m2 x) (view m2 y)=some z):eOp g a b ρ m = .ok z m2:=by
 rw [qgR,ha,R.bind_ok,hb,R.bind_ok,hg,R.of_some]
theorem z_un {g:D→Option D} (ha:a ρ m = .ok x m1) (hg:g (view m1 x)=some z):eUn g a ρ m = .ok z m1:=by
 rw [qeM,ha,R.bind_ok,hg,R.of_some]
theorem qnJ {g:D→D→Option Bool} {k:Bool} (ha:a ρ m = .ok x m1) (hb:b ρ m1 = .ok y m2) (hg:g (view m2 x) (view m2 y)=some k):eCmp g a b ρ m = .ok (.bl k) m2:=by
 rw [qeh,ha,R.bind_ok,hb,R.bind_ok,hg,waZ,R.of_some]
theorem qaX {g:D→D→Option Bool} {k:Bool} (ha:a ρ m = .ok x m1) (hb:b ρ m1 = .ok y m2) (hg:g (view m2 x) (view m2 y)=some k):tCmp g a b ρ m = .ok k m2:=by
 rw [qfq,ha,R.bind_ok,hb,R.bind_ok,hg,R.of_some]
theorem qiz {g g' : D→D→Option Bool} {k:Bool} {r:R Bool} (ha:a ρ m = .ok x m1) (hb:b ρ m1 = .ok y m2) (hg:g (view m2 x) (view m2 y)=some k)
  (h:(if k=true then (c ρ m2).bind fun z m=>.of m (g' (view m y) (view m z)) else .ok false m2)=r):tChain g g' a b c ρ m=r:=by
 unfold tChain
 rw [ha,R.bind_ok,hb,R.bind_ok,hg,R.of_some,R.bind_ok]
 exact h
theorem qhh {g' : D→D→Option Bool} {k:Bool} (hc:c ρ m = .ok z m1) (hg:g' (view m1 y) (view m1 z)=some k):((c ρ m).bind fun z m=>TT.R.of m (g' (view m y) (view m z))) = .ok k m1:=by
 rw [hc,R.bind_ok,hg,R.of_some]
theorem qjq {k:Bool} (ha:a ρ m = .ok x m1) (h:dTruth (view m1 x)=some k):tVal a ρ m = .ok k m1:=by
 rw [qfr,ha,R.bind_ok,h,R.of_some]
theorem qnK {k:Bool} (h:t ρ m = .ok k m1):tNot t ρ m = .ok (!k) m1:=by rw [qei,h,R.bind_ok]
theorem qjr (h:t ρ m = .ok true m1):tNot t ρ m = .ok false m1:=by rw [qei,h,R.bind_ok]; rfl
theorem ql1 {k:Bool} {r:R Bool} (h:t ρ m = .ok k m1) (h2:(if k=true then u ρ m1 else .ok false m1)=r):tAnd t u ρ m=r:=by rw [qfs,h,R.bind_ok]; exact h2
theorem z_or {k:Bool} {r:R Bool} (h:t ρ m = .ok k m1) (h2:(if k=true then .ok true m1 else u ρ m1)=r):tOr t u ρ m=r:=by rw [qgS,h,R.bind_ok]; exact h2
theorem ql2 {k:Bool} {r:R D} (h:a ρ m = .ok (.bl k) m1) (h2:(if k=true then b ρ m1 else .ok (.bl false) m1)=r):eAnd a b ρ m=r:=by rw [qft,h,R.bind_ok]; exact h2
theorem qnL {k:Bool} {r:R D} (h:a ρ m = .ok (.bl k) m1) (h2:(if k=true then .ok (.bl true) m1 else b ρ m1)=r):eOr a b ρ m=r:=by rw [qin,h,R.bind_ok]; exact h2
theorem ql3 {k:Bool} (h:a ρ m = .ok (.bl k) m1):eNot a ρ m = .ok (.bl (!k)) m1:=by rw [qfu,h,R.bind_ok]; rfl
theorem qnM {k:Bool} {r:R D} (h:t ρ m = .ok k m1) (h2:(if k=true then a ρ m1 else b ρ m1)=r):eIf t a b ρ m=r:=by rw [qio,h,R.bind_ok]; exact h2
theorem qao:lNil ρ m = .ok [] m:=rfl
theorem qaf {r:EL} {xs:List D} (ha:a ρ m = .ok x m1) (hr:r ρ m1 = .ok xs m2):lCons a r ρ m = .ok (x::xs) m2:=by rw [qc2,ha,R.bind_ok,hr,R.bind_ok]
theorem qcw {xs:List D} (hl:l ρ m = .ok xs m1) (h:xs.length≤16777216):eTup l ρ m = .ok (.tup xs) m1:=by rw [qfv,hl,R.bind_ok]; exact if_pos h
theorem qaV {xs:List D} (hl:l ρ m = .ok xs m1) (h:xs.length≤16777216):eLst false l ρ m = .ok (.lst xs) m1:=by rw [qej,hl,R.bind_ok]; exact if_pos h
theorem ql4 {xs:List D} {n:Nat} (hl:l ρ m = .ok xs m1) (h:xs.length≤16777216) (hn:m1.length=n) (hm:m1++[.lst xs]=m2):eLst true l ρ m = .ok (.loc n) m2:=by rw [qej,hl,R.bind_ok,← hn,← hm]; exact if_pos h
theorem qe3 {g:List D→Option D} {xs:List D} (hl:l ρ m = .ok xs m1) (hg:g (xs.map (view m1))=some d):eFun g l ρ m = .ok d m1:=by rw [qek,hl,R.bind_ok,hg,R.of_some]
theorem qd0 {g:List D→Option (List D)} {xs ys:List D} (hl:l ρ m = .ok xs m1) (hg:g (xs.map (view m1))=some ys):eFunL false g l ρ m = .ok (.lst ys) m1:=by rw [qc3,hl,R.bind_ok,hg,R.of_some,R.bind_ok,qaH]
theorem qkt {g:List D→Option (List D)} {xs ys:List D} {n:Nat} (hl:l ρ m = .ok xs m1) (hg:g (xs.map (view m1))=some ys) (hn:m1.length=n) (hm:m1++[.lst ys]=m2):eFunL true g l ρ m = .ok (.loc n) m2:=by rw [qc3,hl,R.bind_ok,hg,R.of_some,R.bind_ok,qbQ,hn,hm]
theorem ql5 {xs:List D} (ha:a ρ m = .ok x m1) (hd:dItems x=some xs):iSeq a ρ m = .ok xs m1:=by rw [qfw,ha,R.bind_ok,hd,R.of_some]
theorem zcR {n:Nat} (ha:a ρ m = .ok (.int (n:Nat)) m1) (h:n≤16777216):iRange a ρ m = .ok (dRange (n:Nat)) m1:=by rw [qcK,ha,R.bind_ok]; exact qa2 h
theorem ql6 {xs:List D} (hl:l ρ m = .ok [.lst xs] m1):iEnum l ρ m = .ok (dEnum xs) m1:=by rw [qkj,hl,R.bind_ok]
theorem qnN {xs ys:List D} (hl:l ρ m = .ok [x,y] m1) (hx:dItems x=some xs) (hy:dItems y=some ys):iZip l ρ m = .ok (dZip xs ys) m1:=by
 unfold iZip
 rw [hl,R.bind_ok]
 show R.of m1 ((dItems x).bind fun xs=>(dItems y).bind fun ys=>some (dZip xs ys))=_
 rw [hx,waK,hy,waK,R.of_some]
theorem z_no:oNo ρ m = .ok none m:=rfl
theorem qbG {i:Int} (ha:a ρ m = .ok (.int i) m1):oSome a ρ m = .ok (some i) m1:=by rw [qdP,ha,R.bind_ok]
theorem qe4 {lo hi:EO} {p q:Option Int} (ha:a ρ m = .ok x m1) (hp:lo ρ m1 = .ok p m2) (hq:hi ρ m2 = .ok q m3) (hg:dCut p q (view m3 x)=some d):eCut a lo hi ρ m = .ok d m3:=by
 rw [qfB,ha,R.bind_ok,hp,R.bind_ok,hq,R.bind_ok,hg,R.of_some]
theorem qjs {T:String} {g:D→List D→Option D} {xs:List D} (ha:a ρ m = .ok x m1) (ht:tyIs T (view m1 x)=some true) (hl:l ρ m1 = .ok xs m2) (hg:g (view m2 x) (xs.map (view m2))=some d):eMeth T g a l ρ m = .ok d m2:=by
 rw [qdQ,ha,R.bind_ok,if_pos ht,hl,R.bind_ok,hg,R.of_some]
theorem qiA {k:Nat} {xs ys:List D} (ha:a ρ m = .ok (.loc k) m1) (hx:m1[k]? = some (.lst xs)) (hl:c ρ m1 = .ok y m2) (h1:m2[k]? = some (.lst ys)) (hs:ys.length < 16777216) (hm:m2.set k (.lst (ys++[y]))=m3):eAppend a c ρ m = .ok .non m3:=by
 unfold eAppend
 have hv:view m1 (.loc k) = .lst xs:=by simp only [view,hx]
 rw [ha,R.bind_ok,hv,if_pos (show tyIs "list" (.lst xs)=some true from rfl),hl,R.bind_ok]
 simp only [h1]
 rw [if_pos hs,hm]
theorem ql7 {n:Nat} (hn:m.length=n) (hm:m++[.dct []]=m1):eDctM false ρ m = .ok (.loc n) m1:=by
 show R.ok (D.loc m.length) (m++[.dct []])=_
 rw [hn,hm]
theorem ql8 {n:Nat} (hn:m.length=n) (hm:m++[.dcT []]=m1):eDctM true ρ m = .ok (.loc n) m1:=by
 show R.ok (D.loc m.length) (m++[.dcT []])=_
 rw [hn,hm]
theorem ql9 {n:Nat} (hn:m.length=n) (hm:m++[.dcN []]=m1):eDctN ρ m = .ok (.loc n) m1:=by
 show R.ok (D.loc m.length) (m++[.dcN []])=_
 rw [hn,hm]
theorem qgd {n:Nat} (ha:a ρ m = .ok (.int (n:Nat)) m1) (h:n≤16777216):eLstRange a ρ m = .ok (.lst (dRange (n:Nat))) m1:=by
 unfold eLstRange
 rw [ha,R.bind_ok]
 exact if_pos ⟨by omega,by omega⟩
theorem qnO {v o i:E} {k:D} {q:O} (hv:v ρ m = .ok y m1) (ho:o ρ m1 = .ok x m2) (hi:i ρ m2 = .ok k m3) (h:putAt x k y ρ m3=q):sPutP v o i ρ m=q:=by
 unfold sPutP
 rw [hv,R.then_ok,ho,R.then_ok,hi,R.then_ok,h]
theorem qiB {k:D} {n:Nat} {ps qs:List (D × D)} (hc:m[n]? = some (.dct ps)) (hk:keyA k=true) (hl:ps.length < 16777216) (hp:putP ps k y=qs) (hm:m.set n (.dct qs)=m1):putAt (.loc n) k y ρ m = .nx ρ m1:=by
 unfold putAt
 simp only [hc]
 rw [if_pos ⟨hk,hl⟩,hp,hm]
theorem qiC {k:D} {n:Nat} {ps qs:List (D × D)} (hc:m[n]? = some (.dcT ps)) (hk:keyT k=true) (hl:ps.length < 16777216) (hp:putP ps k y=qs) (hm:m.set n (.dcT qs)=m1):putAt (.loc n) k y ρ m = .nx ρ m1:=by
 unfold putAt
 simp only [hc]
 rw [if_pos ⟨hk,hl⟩,hp,hm]
theorem qma {v o i:E} {k:D} {n:Nat} {ps qs:List (D × D)} (hv:v ρ m = .ok y m1) (ho:o ρ m1 = .ok (.loc n) m2) (hi:i ρ m2 = .ok k m3) (hc:m3[n]? = some (.dcN ps)) (hk:keyN k=true) (hl:ps.length < 16777216) (hp:putP ps k y=qs) (hm:m3.set n (.dcN qs)=m4):sPutN v o i ρ m = .nx ρ m4:=by
 unfold sPutN
 rw [hv,R.then_ok,ho,R.then_ok,hi,R.then_ok]
 unfold putN
 simp only [hc]
 rw [if_pos ⟨hk,hl⟩,hp,hm]
theorem qmb {k:D} {n:Nat} {ps:List (D × D)} (hc:m[n]? = some (.dct ps)) (hk:keyA k=true):dctAt (.loc n) k m=some ps:=by
 unfold dctAt
 simp only [hc]
 rw [if_pos hk]
theorem qmc {k:D} {n:Nat} {ps:List (D × D)} (hc:m[n]? = some (.dcT ps)) (hk:keyT k=true):dctAt (.loc n) k m=some ps:=by
 unfold dctAt
 simp only [hc]
 rw [if_pos hk]
theorem qmd {k:D} {n:Nat} {ps:List (D × D)} (hc:m[n]? = some (.dcN ps)) (hk:keyN k=true):dcnAt (.loc n) k m=some ps:=by
 unfold dcnAt
 simp only [hc]
 rw [if_pos hk]
theorem qme {neg:Bool} {k:D} {ps:List (D × D)} {q:Bool} (ha:a ρ m = .ok k m1) (hb:b ρ m1 = .ok x m2) (hc:dctAt x k m2=some ps) (hg:((getP ps k).isSome != neg)=q):tInP neg a b ρ m = .ok q m2:=by
 unfold tInP
 rw [ha,R.bind_ok,hb,R.bind_ok,hc,waZ,hg,R.of_some]
theorem qmf {neg:Bool} {k:D} {ps:List (D × D)} {q:Bool} (ha:a ρ m = .ok k m1) (hb:b ρ m1 = .ok x m2) (hc:dctAt x k m2=some ps) (hg:((getP ps k).isSome != neg)=q):eInP neg a b ρ m = .ok (.bl q) m2:=by
 unfold eInP
 rw [ha,R.bind_ok,hb,R.bind_ok,hc,waZ,hg,R.of_some]
theorem qmg {neg:Bool} {k:D} {ps:List (D × D)} {q:Bool} (ha:a ρ m = .ok k m1) (hb:b ρ m1 = .ok x m2) (hc:dcnAt x k m2=some ps) (hg:((getP ps k).isSome != neg)=q):tInN neg a b ρ m = .ok q m2:=by
 unfold tInN
 rw [ha,R.bind_ok,hb,R.bind_ok,hc,waZ,hg,R.of_some]
theorem qmh {k:D} {ps:List (D × D)} (ha:a ρ m = .ok x m1) (hb:b ρ m1 = .ok k m2) (hc:dctAt x k m2=some ps) (hg:getP ps k=some d):eGetP a b ρ m = .ok d m2:=by
 unfold eGetP
 rw [ha,R.bind_ok,hb,R.bind_ok,hc,waK,hg,R.of_some]
theorem qmi {k:D} {ps:List (D × D)} (ha:a ρ m = .ok x m1) (hb:b ρ m1 = .ok k m2) (hc:dcnAt x k m2=some ps) (hg:getP ps k=some d):eGetN a b ρ m = .ok d m2:=by
 unfold eGetN
 rw [ha,R.bind_ok,hb,R.bind_ok,hc,waK,hg,R.of_some]
theorem qiD {ys:List D} (ho:a ρ m = .ok x m1) (hs:sortPS x m1=some ys):eSortPS false a ρ m = .ok (.lst ys) m1:=by
 unfold eSortPS
 rw [ho,R.bind_ok,hs,R.of_some,R.bind_ok,qaH]
theorem qnP {n:Nat} {xs:List D} (ha:a ρ m = .ok (.loc n) m1) (hc:m1[n]? = some (.lst (xs++[d]))) (hm:m1.set n (.lst xs)=m2):ePop a ρ m = .ok d m2:=by
 unfold ePop
 have hv:view m1 (.loc n) = .lst (xs++[d]):=by simp only [view,hc]
 rw [ha,R.bind_ok,hv,if_pos (show tyIs "list" (.lst _)=some true from rfl)]
 unfold popAt
 simp only [hc,List.getLast?_append,List.getLast?_singleton,Option.some_or,List.dropLast_concat,hm]
theorem qku {n:Nat} {f:F} {ds:List D} {r:R D} (hl:l ρ m = .ok ds m1) (hn:ds.length=n) (hf:f ds m1=r):eCallW n f l ρ m=r:=by
 unfold eCallW
 rw [hl,R.bind_ok,if_pos hn,hf]
theorem qbu {M:Bool} {n:Nat} {f:F} {ds:List D} {r:R D} (hl:l ρ m = .ok ds m1) (hn:ds.length=n) (hf:callF M f ds m1=r):eCall M n f l ρ m=r:=by
 unfold eCall
 rw [hl,R.bind_ok,← hf]
 unfold callF
 by_cases h:noLocs ds=true
 ·rw [if_pos ⟨hn,h⟩,if_pos h]
 ·rw [if_neg (fun z=>h z.2),if_neg h]
theorem qkv {M:Bool} {cn mn:PySem.Str} {n:Nat} {f:F} {ds:List D} {r:R D} {fs:List (PySem.Str × D)} (ha:a ρ m = .ok x m1) (hx:objAt cn x m1=some fs) (hk:(fs.lookup mn).isNone=true) (hl:l ρ m1 = .ok ds m2) (hn:ds.length+1=n) (hf:callF M f (x::ds) m2=r):eMethC M cn mn n f a l ρ m=r:=by
 unfold eMethC
 rw [ha,R.bind_ok,hx]
 show (if (fs.lookup mn).isNone=true then (l ρ m1).bind fun ds m=>if ds.length+1=n then callF M f (x::ds) m else .bad else .bad)=r
 rw [if_pos hk,hl,R.bind_ok,if_pos hn,hf]
theorem qkw {cn mn:PySem.Str} {n:Nat} {f:F} {ds:List D} {r:R D} {fs:List (PySem.Str × D)} (ha:a ρ m = .ok x m1) (hx:objAt cn x m1=some fs) (hk:(fs.lookup mn).isNone=true) (hl:l ρ m1 = .ok ds m2) (hn:ds.length+1=n) (hf:f (x::ds) m2=r):eMethW cn mn n f a l ρ m=r:=by
 unfold eMethW
 rw [ha,R.bind_ok,hx]
 show (if (fs.lookup mn).isNone=true then (l ρ m1).bind fun ds m=>if ds.length+1=n then f (x::ds) m else .bad else .bad)=r
 rw [if_pos hk,hl,R.bind_ok,if_pos hn,hf]
theorem qnQ {cn f:PySem.Str} {fs:List (PySem.Str × D)} (ha:a ρ m = .ok x m1) (hx:objAt cn x m1=some fs) (hf:fs.lookup f=some d):eFld cn f a ρ m = .ok d m1:=by
 unfold eFld
 rw [ha,R.bind_ok,hx,waK,hf,R.of_some]
theorem qaY {f:F} {ds:List D} (hd:noLocs ds=true) (hf:∃ m',f ds [] = .ok d m') (h:noLoc d=true):callF false f ds m = .ok d m:=by
 obtain ⟨m',hf⟩:=hf
 unfold callF
 rw [if_pos hd,hf]
 cases d with
 | loc j=>cases h
 | _=>simp only [h,and_self,if_true]
variable {o:O} {p q:S}
theorem qd1 {n:Nat} {ds:List D} (hr:ds.map some++List.replicate (n - ds.length) none=ρ) (h:p ρ m = .rt d m1):runDef n p ds m = .ok d m1:=by rw [qbX,hr,h,qfC]
theorem qjt {n:Nat} {ds:List D} {e:D} (hr:ds.map some++List.replicate (n - ds.length) none=ρ) (h:p ρ m = .exc e ρ1 m1):runDef n p ds m = .exc e m1:=by rw [qbX,hr,h,qdS]
theorem qar (h1:p ρ m = .nx ρ1 m1) (h2:q ρ1 m1=o):sSeq p q ρ m=o:=by rw [qaK,h1]; exact h2
theorem qhi (h1:p ρ m = .rt d m1):sSeq p q ρ m = .rt d m1:=by rw [qaK,h1]
theorem qkx {e:D} (h1:p ρ m = .exc e ρ1 m1):sSeq p q ρ m = .exc e ρ1 m1:=by rw [qaK,h1]
theorem qcb {k:Bool} (ht:t ρ m = .ok k m1) (h:(if k=true then p ρ m1 else q ρ m1)=o):sIf t p q ρ m=o:=by rw [qel,ht,R.then_ok]; exact h
theorem qmj {r:S} {k:Bool} (ht:t ρ m = .ok k m1) (h:(if k=true then sSeq p q ρ m1 else sSeq r q ρ m1)=o):sSeq (sIf t p r) q ρ m=o:=by
 rw [qaK,qel,ht,R.then_ok,← h]
 cases k <;> rfl
theorem qju {r:S} {k:Bool} {vs:List Nat} (ht:t ρ m = .ok k m1) (h:(if k=true then sSeq (sW p vs) q ρ m1 else sSeq (sW r vs) q ρ m1)=o):sSeq (sW (sIf t p r) vs) q ρ m=o:=by
 rw [qaK,← h]
 unfold sW
 rw [qel,ht,R.then_ok]
 cases k <;> rfl
theorem qnR {r:S} {k:Bool} {vs:List Nat} (ht:t ρ m = .ok k m1) (h:(if k=true then sW p vs ρ m1 else sW r vs ρ m1)=o):sW (sIf t p r) vs ρ m=o:=by
 rw [← h]
 unfold sW
 rw [qel,ht,R.then_ok]
 cases k <;> rfl
theorem qjv (h:a ρ m = .ok d m1):sSeq (sRet a) q ρ m = .rt d m1:=by rw [qaK,qcp,h,R.then_ok]
theorem qky:sSeq sRetN q ρ m = .rt .non m:=rfl
theorem qiE {cn:PySem.Str}:sSeq (sRaise cn) q ρ m = .exc (.exc cn []) ρ m:=rfl
theorem qkz (h:q ρ m=o):sSeq sNext q ρ m=o:=h
theorem qmk:sSeq sBreak q ρ m = .bk ρ m:=rfl
theorem qml:sSeq sCont q ρ m = .ct ρ m:=rfl
theorem qkA {vs:List Nat} (h:a ρ m = .ok d m1):sSeq (sW (sRet a) vs) q ρ m = .rt d m1:=by
 rw [qaK]; unfold sW; rw [qcp,h,R.then_ok]
theorem qmm {vs:List Nat} (h:a ρ m = .ok d m1):sW (sRet a) vs ρ m = .rt d m1:=by
 unfold sW; rw [qcp,h,R.then_ok]
theorem qmn {vs:List Nat} (hr:wipeE ρ vs=ρ1):sW sCont vs ρ m = .ct ρ1 m:=by rw [← hr]; rfl
theorem qiF {vs:List Nat} (hr:wipeE ρ vs=ρ1) (h:q ρ1 m=o):sSeq (sW sNext vs) q ρ m=o:=by rw [← h,← hr]; rfl
theorem qjw {r:S} (h:sSeq p (sSeq q r) ρ m=o):sSeq (sSeq p q) r ρ m=o:=by
 rw [← h,qaK,qaK,qaK]
 cases p ρ m <;> rfl
theorem qkB {r:S} {vs:List Nat} (h1:p ρ m = .nx ρ1 m1) (h:sSeq (sW q vs) r ρ1 m1=o):sSeq (sW (sSeq p q) vs) r ρ m=o:=by
 rw [← h,qaK,qaK]
 unfold sW
 rw [qaK,h1]
theorem qmo {vs:List Nat} (h1:p ρ m = .nx ρ1 m1) (h:sW q vs ρ1 m1=o):sW (sSeq p q) vs ρ m=o:=by
 rw [← h]
 unfold sW
 rw [qaK,h1]
theorem qmp {r:S} {k:Bool} {vs:List Nat} (ht:t ρ m = .ok k m1) (h:(if k=true then sW (sSeq p q) vs ρ m1 else sW (sSeq r q) vs ρ m1)=o):sW (sSeq (sIf t p r) q) vs ρ m=o:=by
 rw [← h]
 unfold sW
 rw [qmj ht rfl]
 cases k <;> rfl
theorem qkC {r:S} {k:Bool} {vs ws:List Nat} (ht:t ρ m = .ok k m1) (h:(if k=true then sW (sSeq (sW p ws) q) vs ρ m1 else sW (sSeq (sW r ws) q) vs ρ m1)=o):sW (sSeq (sW (sIf t p r) ws) q) vs ρ m=o:=by
 rw [← h]
 unfold sW
 have:=qju (q:=q) (vs:=ws) (p:=p) (r:=r) ht rfl
 unfold sW at this
 rw [this]
 cases k <;> rfl
theorem qkD {r:S} {vs:List Nat} (h:sW (sSeq p (sSeq q r)) vs ρ m=o):sW (sSeq (sSeq p q) r) vs ρ m=o:=by
 rw [← h]
 unfold sW
 rw [qjw rfl]
theorem qkE {vs:List Nat} (h:a ρ m = .ok d m1):sW (sSeq (sRet a) q) vs ρ m = .rt d m1:=by
 unfold sW; rw [qjv h]
theorem qiG {vs:List Nat} (h:sW q vs ρ m=o):sW (sSeq sNext q) vs ρ m=o:=h
theorem qkF {vs:List Nat} (hr:wipeE ρ vs=ρ1):sW (sSeq sCont q) vs ρ m = .ct ρ1 m:=by rw [← hr]; rfl
theorem qkG {vs:List Nat} (hr:wipeE ρ vs=ρ1):sW (sSeq sBreak q) vs ρ m = .bk ρ1 m:=by rw [← hr]; rfl
theorem qmq {vs:List Nat} (hr:wipeE ρ vs=ρ1):sW sBreak vs ρ m = .bk ρ1 m:=by rw [← hr]; rfl
theorem qd2 (h:a ρ m = .ok d m1):sRet a ρ m = .rt d m1:=by rw [qcp,h,R.then_ok]
theorem qmr {e:D} (h:a ρ m = .exc e m1):sRet a ρ m = .exc e ρ m1:=by rw [qcp,h,R.then_exc]
theorem qbH:sNext ρ m = .nx ρ m:=rfl
theorem qms (h:a ρ m = .ok d m1):sExpr a ρ m = .nx ρ m1:=by rw [qdN,h,R.then_ok]
theorem qkH {cn:PySem.Str}:sRaise cn ρ m = .exc (.exc cn []) ρ m:=rfl
theorem qaN {i:Nat} (h:a ρ m = .ok d m1) (hr:ρ.set i (some d)=ρ1):sSet i a ρ m = .nx ρ1 m1:=by rw [qem,h,R.then_ok,hr]
theorem qmt {g:TT.T} (h:a ρ m = .ok d m1) (hg:g d ρ=some ρ1):sAsg a g ρ m = .nx ρ1 m1:=by
 rw [qfx,h,R.then_ok,hg]
theorem qhj {i:Nat} (hr:ρ.set i (some d)=ρ1):gName i d ρ=some ρ1:=by rw [qbi,hr]
theorem qmu {n:Nat} {g:Ts} {xs:List D} (hn:xs.length=n) (h:g xs ρ=some ρ1):gTup n g (.tup xs) ρ=some ρ1:=by rw [qfy,if_pos hn,h]
theorem qkI {n:Nat} {g:Ts} {xs:List D} (hn:xs.length=n) (h:g xs ρ=some ρ1):gTup n g (.lst xs) ρ=some ρ1:=by rw [qfz,if_pos hn,h]
theorem qkJ {g:TT.T} {gs:Ts} {xs:List D} (h:g x ρ=some ρ1) (h2:gs xs ρ1=some ρ2):gsCons g gs (x::xs) ρ=some ρ2:=by rw [qcL,h,waK,h2]
theorem qmv:gsNil [] ρ=some ρ:=rfl
theorem qfN {i:EL} {g:TT.T} {ds:List D} (h:i ρ m = .ok ds m1) (h2:forL g p ds ρ m1=o):sFor i g p ρ m=o:=by rw [qfA,h,R.then_ok,h2]
theorem z_sw {vs:List Nat} (h:p ρ m = .nx ρ1 m1) (hr:wipeE ρ1 vs=ρ2):sW p vs ρ m = .nx ρ2 m1:=by unfold sW; rw [h,← hr]
theorem qkK {i:Nat} (h:p ρ m = .nx ρ1 m1) (hf:frzAt i ρ1 m1=o):sThenF p i ρ m=o:=by
 rw [qcM,h]
 exact hf
theorem qmw {i n:Nat} {xs:List D} (h1:ρ[i]? = some (some (.loc n))) (h2:m[n]? = some (.lst xs)) (hr:ρ.set i (some (.lst xs))=ρ2) (hm:m.set n .dead=m2):frzAt i ρ m = .nx ρ2 m2:=by
 unfold frzAt
 simp only [h1,h2,hr,hm]
theorem qmx {i n:Nat} {ps:List (D × D)} (h1:ρ[i]? = some (some (.loc n))) (h2:m[n]? = some (.dct ps)):frzAt i ρ m = .nx ρ m:=by
 unfold frzAt
 simp only [h1,h2]
theorem qmy {i n:Nat} {ps:List (D × D)} (h1:ρ[i]? = some (some (.loc n))) (h2:m[n]? = some (.dcT ps)):frzAt i ρ m = .nx ρ m:=by
 unfold frzAt
 simp only [h1,h2]
theorem qmz {i n:Nat} {ps:List (D × D)} (h1:ρ[i]? = some (some (.loc n))) (h2:m[n]? = some (.dcN ps)):frzAt i ρ m = .nx ρ m:=by
 unfold frzAt
 simp only [h1,h2]
theorem qmA {i:Nat} {xs:List D} (h1:ρ[i]? = some (some (.lst xs))):frzAt i ρ m = .nx ρ m:=by
 unfold frzAt
 simp only [h1]
theorem qmB {i:EL} {g:TT.T} {e:E} {vs:List Nat} {ds ys:List D} (hi:i ρ m = .ok ds m1) (hw:wipeE ρ vs=ρ1) (hc:compL g t e ρ1 ds [] m1 = .ok ys m2):eComp false i g t e vs ρ m = .ok (.lst ys) m2:=by
 rw [qc4,hi,R.bind_ok,hw,hc,R.bind_ok,qaH]
theorem qkL {i:EL} {g:TT.T} {e:E} {vs:List Nat} {ds ys:List D} {n:Nat} (hi:i ρ m = .ok ds m1) (hw:wipeE ρ vs=ρ1) (hc:compL g t e ρ1 ds [] m1 = .ok ys m2) (hn:m2.length=n) (hm:m2++[.lst ys]=m3):eComp true i g t e vs ρ m = .ok (.loc n) m3:=by
 rw [qc4,hi,R.bind_ok,hw,hc,R.bind_ok,qbQ,hn,hm]
theorem qnS (i j:Int):dEq (.int i) (.int j)=some (decide (i=j)):=rfl
theorem qmC (i j:Nat):dEq (.int (i:Nat)) (.int (j:Nat))=some (decide (i=j)):=by
 show some (decide (((i:Nat):Int)=(j:Nat)))=_
 congr 1
 exact decide_eq_decide.mpr (by omega)
theorem qnT (i j:Int):dNe (.int i) (.int j)=some (!decide (i=j)):=rfl
theorem qnU (i j:Nat):dNe (.int (i:Nat)) (.int (j:Nat))=some (!decide (i=j)):=by
 unfold dNe
 rw [qmC]; rfl
theorem qmD (a b:List Nat):dEq (tx a) (tx b)=some (decide (a=b)):=by
 show some (PySem.Str.mk a.toArray == PySem.Str.mk b.toArray)=_
 congr 1
 rw [wa1,beq_iff_eq,decide_eq_true_iff]
 exact ⟨fun h=>by have:=congrArg (fun s:PySem.Str=>s.cps.toList) h; simpa using this,fun h=>by rw [h]⟩
theorem qnV (a b:List Nat):dNe (tx a) (tx b)=some (!decide (a=b)):=by
 unfold dNe
 rw [qmD]; rfl
theorem qiH (l:List Nat):dItems (tx l)=some (l.map sg):=rfl
theorem qiI (xs:List D):dItems (.lst xs)=some xs:=rfl
theorem qiJ (xs:List D):dItems (.tup xs)=some xs:=rfl
theorem qmE {l:List Nat} (h:l.length≤16777216):dRev (tx l)=some (tx l.reverse):=by
 show (if (PySem.Str.mk l.toArray).length≤LN then some (D.str ⟨l.toArray.toList.reverse.toArray⟩) else none)=_
 rw [qcq,if_pos h]
theorem qmF {α:Type} (f:α→D) (l:List α):dRev (.lst (l.map f))=some (.lst (l.reverse.map f)):=by
 show some (D.lst (l.map f).reverse)=_
 rw [List.map_reverse]
theorem qmG {xs:List D} {n:Nat} (h:xs.length=n):dLen [.tup xs]=some (.int (n:Nat)):=by rw [← h]; rfl
theorem qmH (xs:List D):dIsInst [.tup xs,.ty "tuple"]=some (.bl true):=qbs (by decide)
theorem qmI (xs:List D):dIsInst [.lst xs,.ty "list"]=some (.bl true):=qbs (by decide)
theorem qmJ (b:Bool):dIsInst [.bl b,.ty "bool"]=some (.bl true):=qbs (by decide)
theorem qmK (i:Int):dIsInst [.int i,.ty "int"]=some (.bl true):=qbs (by decide)
theorem qiK (b:Bool):dTruth (.bl b)=some b:=rfl
theorem qmL:dIs .non .non=some true:=rfl
theorem qmM (s:PySem.Str):dIs (.str s) .non=some false:=rfl
theorem qmN (i:Int):dIs (.int i) .non=some false:=rfl
theorem qmO (xs:List D):dIs (.tup xs) .non=some false:=rfl
theorem qkM:dIsNot .non .non=some false:=rfl
theorem qkN (s:PySem.Str):dIsNot (.str s) .non=some true:=rfl
theorem qkO (i:Int):dIsNot (.int i) .non=some true:=rfl
theorem qkP (xs:List D):dIsNot (.tup xs) .non=some true:=rfl
theorem qmP (a:List Nat):dEq (tx a) (tx a)=some true:=qfK rfl
theorem qmQ (a:List Nat):dNe (tx a) (tx a)=some false:=qaS rfl
theorem qmR (i:Int):dEq (.int i) (.int i)=some true:=qfK rfl
theorem qmS (i:Int):dNe (.int i) (.int i)=some false:=qaS rfl
theorem qkQ (xs:List D):dList [.lst xs]=some xs:=rfl
theorem qhk (xs:List Int):dEq (.lst (xs.map D.int)) (.lst [])=some (decide (xs=[])):=by
 have h:isData (.lst (xs.map D.int))=true:=qbc fun x hx=>by
  obtain ⟨i,_,rfl⟩:=wae.mp hx
  rfl
 show (if isData (.lst (xs.map D.int))=true∧isData (.lst [])=true then some (eqvD (.lst (xs.map D.int)) (.lst [])) else _)=_
 rw [if_pos ⟨h,rfl⟩]
 cases xs <;> rfl
theorem qmT {α:Type} (f:α→D) (xs:List α) (p q:Option Int):dCut p q (.lst (xs.map f))=some (.lst ((cutD xs p q).map f)):=qit f xs p q
theorem qmU (xs:List D) (p q:Option Int):dCut p q (.tup xs)=some (.tup (cutD xs p q)):=rfl
theorem qkR {xs:List D} {n:Nat} (h:xs.length=n):dLen [.lst xs]=some (.int (n:Nat)):=by rw [← h]; rfl
def cellsOr (cs:List Int):List Int:=if cs=[] then [0] else cs
theorem qkS (n:Nat):dRange (n:Nat)=(List.range n).map fun (i:Nat)=>D.int (i:Nat):=by
 unfold dRange
 rw [wbe]
theorem qmV (i j:Int):dAdd (.int i) (.int j)=some (.int (i+j)):=rfl
theorem qmW (i j:Nat):dAdd (.int (i:Nat)) (.int (j:Nat))=some (.int ((i+j:Nat):Int)):=by
 show some (D.int ((i:Int)+(j:Int)))=_
 congr 2
theorem qkT (i:Nat):dAdd (.int (i:Nat)) (.int 1)=some (.int ((i+1:Nat):Int)):=by
 show some (D.int ((i:Int)+1))=_
 congr 2
theorem qjx (xs:List D):dLen [.lst xs]=some (.int (xs.length:Nat)):=rfl
theorem qfO {α:Type} (f:α→D) (xs:List α):dLen [.lst (xs.map f)]=some (.int (xs.length:Nat)):=by rw [qjx,waa]
theorem qmX {l:List Nat} (h:l.length≤16777216):dLen [tx l]=some (.int (l.length:Nat)):=by
 have:(PySem.Str.mk l.toArray).length=l.length:=qcq l
 show (if (PySem.Str.mk l.toArray).length≤LN then some (D.int ((PySem.Str.mk l.toArray).length:Nat)) else none)=_
 rw [this,if_pos h]
theorem qnW {α:Type} (f:α→D) {xs:List α} {i:Nat} {y:α} (h:xs[i]? = some y):dIx (.lst (xs.map f)) (.int (i:Nat))=some (f y):=by
 show (dIxN (xs.map f).length ((i:Nat):Int)).bind (fun j=>(xs.map f)[j]?)=_
 have hi:i < xs.length:=by
  rcases Nat.lt_or_ge i xs.length with z | z
  ·exact z
  ·rw [war z] at h; cases h
 unfold dIxN
 rw [if_pos (by omega),if_pos (by rw [waa]; omega)]
 show (xs.map f)[((i:Nat):Int).toNat]? = _
 rw [wbe,wal,h]
 rfl
theorem qnX (i j:Nat):dLt (.int (i:Nat)) (.int (j:Nat))=some (decide (i < j)):=by
 show some (decide (((i:Nat):Int) < (j:Nat)))=_
 congr 1
 exact decide_eq_decide.mpr (by omega)
theorem qnY (i j:Nat):dLe (.int (i:Nat)) (.int (j:Nat))=some (decide (i≤j)):=by
 show some (decide (((i:Nat):Int)≤(j:Nat)))=_
 congr 1
 exact decide_eq_decide.mpr (by omega)
theorem qkU (i j:Nat):dGt (.int (i:Nat)) (.int (j:Nat))=some (decide (j < i)):=by
 show some (decide (((j:Nat):Int) < (i:Nat)))=_
 congr 1
 exact decide_eq_decide.mpr (by omega)
theorem qnZ (i j:Nat):dGe (.int (i:Nat)) (.int (j:Nat))=some (decide (j≤i)):=by
 show some (decide (((j:Nat):Int)≤(i:Nat)))=_
 congr 1
 exact decide_eq_decide.mpr (by omega)
theorem qhl {i:Nat} {cs:List Int} (hi:ρ[i]? = some (some (.lst (cs.map D.int)))) (hr:ρ.set i (some (.lst ((cellsOr cs).map D.int)))=ρ1):sIf (tCmp dEq (eVar i) (eLst false lNil)) (sSet i (eLst false (lCons (eC (.int 0)) lNil))) sNext ρ m = .nx ρ1 m:=by
 have t:tCmp dEq (eVar i) (eLst false lNil) ρ m = .ok (decide (cs=[])) m:=qaX (qal hi) (qaV qao (by decide)) (qhk cs)
 rw [qel,t,R.then_ok]
 unfold cellsOr at hr
 by_cases h:cs=[]
 ·rw [if_pos h] at hr
  rw [decide_eq_true h,if_pos rfl]
  exact qaN (qaV (qaf z_c qao) (by decide)) hr
 ·rw [if_neg h] at hr
  rw [decide_eq_false h,if_neg (by decide),← hr]
  show O.nx ρ m=_
  congr 1
  have hl:i < ρ.length:=by
   rcases Nat.lt_or_ge i ρ.length with z | z
   ·exact z
   ·rw [war z] at hi; cases hi
  refine wby fun k=>?_
  rw [List.getElem?_set]
  by_cases e:i=k
  ·subst e
   rw [if_pos rfl,if_pos hl,hi]
  ·rw [if_neg e]
theorem qiL {i:Nat} {cs:List Int} (hi:ρ[i]? = some (some (.lst (cs.map D.int)))) (hr:ρ.set i (some (.lst ((cellsOr cs).map D.int)))=ρ1) (h:q ρ1 m=o):sSeq (sIf (tCmp dEq (eVar i) (eLst false lNil)) (sSet i (eLst false (lCons (eC (.int 0)) lNil))) sNext) q ρ m=o:=by
 rw [qaK,qhl hi hr]
 exact h
theorem qiM {k q:Bool} (h:t ρ m = .ok k m1) (h2:u ρ m1 = .ok q m1):tOr t u ρ m = .ok (k || q) m1:=by
 rw [qgS,h,R.bind_ok]
 cases k
 ·rw [if_neg wak,h2]; rfl
 ·rfl
end
end TT

set_option maxHeartbeats 2000000
namespace TT
open PySem PySem.Spec PyProof.Rows L2
variable [TabI]
def maxDf (mx:Bool) (x d:D):Option D:=match x with
 | .lst xs=>(dInts xs).map fun ks=>match (if mx=true then ks.max? else ks.min?) with
  | some m=>.int m
  | none=>d
 | _=>none
def eMaxDf (mx:Bool) (a d:E):E:=fun ρ m=>(a ρ m).bind fun x m=>(d ρ m).bind fun y m=>.of m (maxDf mx (view m x) y)
def sParL (i j:Nat) (l:EL):S:=fun ρ m=>(l ρ m).then ρ fun ds m=>match ds with
 | [x,y]=>.nx ((ρ.set i (some x)).set j (some y)) m
 | _=>.bad
section
variable {X:Cx}
end
section
variable {X:Cx} {c:Ct} {G:Hp} {μ:List Addr} {ρ:Ev} {m:Mem} {σ:L2.St} {H:Hp} {o e d:Expr} {fo fe fd:E} {l:EL} {pos p apos cpos kpos:Pos} {k:Nat}
end
end TT

namespace TT
open PySem
section
variable {ρ ρ1:Ev} {m m1 m2 m3:Mem} {a b:E} {l:EL} {x y d:D}
theorem qmY {i j:Nat} (h:l ρ m = .ok [x,y] m1) (hr:(ρ.set i (some x)).set j (some y)=ρ1):sParL i j l ρ m = .nx ρ1 m1:=by
 unfold sParL
 rw [h,R.then_ok,← hr]
theorem qkV {mx:Bool} (ha:a ρ m = .ok x m1) (hb:b ρ m1 = .ok y m2) (hg:maxDf mx (view m2 x) y=some d):eMaxDf mx a b ρ m = .ok d m2:=by
 unfold eMaxDf
 rw [ha,R.bind_ok,hb,R.bind_ok,hg,R.of_some]
theorem qmZ {m:Mem} {n:Nat} {q:Mem} (h:m.take n=q) (hq:q.all (cellLt n)=true):gcM n m=some q:=by
 unfold gcM
 rw [h,if_pos hq]
theorem z_gc {k n:Nat} (ha:a ρ m = .ok d m1) (hn:m.length+k=n) (hm:m1.take n=m2) (hq:m2.all (cellLt n)=true) (hd:locLt n d=true):eGc k a ρ m = .ok d m2:=by
 unfold eGc
 rw [ha,hn]
 unfold gcR
 simp only [qmZ hm hq]
 rw [if_pos hd]
theorem z_mk {cn:PySem.Str} {n j:Nat} {f:F} {ds:List D} (hl:l ρ m = .ok ds m1) (hn:ds.length+1=n) (hj:m1.length=j) (hm:m1++[.obj cn []]=m2) (hf:f (.loc j::ds) m2 = .ok .non m3):eMk cn n f l ρ m = .ok (.loc j) m3:=by
 unfold eMk
 rw [hl,R.bind_ok,if_pos hn,hj,hm,hf]
 rfl
theorem qm0 {cn f:PySem.Str} {v o:E} {n:Nat} {fs gs:List (PySem.Str × D)} (hv:v ρ m = .ok y m1) (ho:o ρ m1 = .ok (.loc n) m2) (hc:m2[n]? = some (.obj cn fs)) (hl:fs.length < 1000) (hp:putFD f y fs=gs) (hm:m2.set n (.obj cn gs)=m3):sSetF cn f v o ρ m = .nx ρ m3:=by
 unfold sSetF
 rw [hv,R.then_ok,ho,R.then_ok]
 unfold setFAt
 simp only [hc,hl,and_self,if_true,hp,hm]
theorem qhm {cn:PySem.Str} {n:Nat} {fs:List (PySem.Str × D)} (h:m[n]? = some (.obj cn fs)):objAt cn (.loc n) m=some fs:=by
 unfold objAt
 simp only [h,if_true]
theorem qkW {xs:List D} (ha:a ρ m = .ok (.lst xs) m1):eFrz a ρ m = .ok (.lst xs) m1:=by
 unfold eFrz
 rw [ha,R.bind_ok]
theorem qiN {n j:Nat} {xs ys:List D} (ha:a ρ m = .ok (.loc n) m1) (hb:b ρ m1 = .ok (.loc j) m2) (hx1:∃ zs,m1[n]? = some (.lst zs)) (hx:m2[n]? = some (.lst xs)) (hy:m2[j]? = some (.lst ys)) (hl:xs.length+ys.length≤16777216) (hm:m2.set n (.lst (xs++ys))=m3):eExtend a b ρ m = .ok .non m3:=by
 obtain ⟨zs,hz⟩:=hx1
 unfold eExtend
 have hv:view m1 (.loc n) = .lst zs:=by simp only [view,hz]
 rw [ha,R.bind_ok,hv,if_pos (show tyIs "list" (.lst zs)=some true from rfl),hb,R.bind_ok]
 simp only [hx,hy]
 rw [if_pos hl,hm]
mutual
theorem qbZ (n:Nat):∀ {d:D},noLoc d=true→locLt n d=true
 | .lst xs,h=>by unfold locLt; exact qdc n h
 | .tup xs,h=>by unfold locLt; exact qdc n h
 | .dct ps,h=>by unfold locLt; exact qes n h
 | .obj _ fs,h=>by unfold locLt; exact qet n h
 | .exc _ _,h=>by cases h
 | .loc _,h=>by cases h
 | .non,_=>rfl | .bl _,_=>rfl | .int _,_=>rfl | .str _,_=>rfl | .cls _,_=>rfl | .ty _,_=>rfl
theorem qdc (n:Nat):∀ {xs:List D},noLocs xs=true→locLts n xs=true
 | [],_=>rfl
 | x::xs,h=>by
  have h:(noLoc x && noLocs xs)=true:=h
  rw [wac] at h
  show (locLt n x && locLts n xs)=true
  rw [qbZ n h.1,qdc n h.2]; rfl
theorem qes (n:Nat):∀ {ps:List (D × D)},noLocP ps=true→locLtP n ps=true
 | [],_=>rfl
 | (k,v)::r,h=>by
  have h:(noLoc k && noLoc v && noLocP r)=true:=h
  rw [wac,wac] at h
  show (locLt n k && locLt n v && locLtP n r)=true
  rw [qbZ n h.1.1,qbZ n h.1.2,qes n h.2]; rfl
theorem qet (n:Nat):∀ {fs:List (PySem.Str × D)},noLocF fs=true→locLtF n fs=true
 | [],_=>rfl
 | (_,v)::r,h=>by
  have h:(noLoc v && noLocF r)=true:=h
  rw [wac] at h
  show (locLt n v && locLtF n r)=true
  rw [qbZ n h.1,qet n h.2]; rfl
end
theorem qm1 {i j:Nat} (h:j≤i):dSub (.int (i:Nat)) (.int (j:Nat))=some (.int ((i - j:Nat):Int)):=by
 show some (D.int ((i:Int) - (j:Int)))=_
 congr 2
 omega
end
end TT

set_option maxHeartbeats 2000000
namespace ZL
open PySem PySem.Spec PyProof.Rows L2
abbrev IsZipF (h:Heap) (z TI TO:Addr) (f0:Value) (f:Bool):Prop:=
 h.get? z=some { cls:=.type "zip",dict:=none,data:=.fields #[f0,.bool f,.bool false,.ref TI,.ref TO],slots:=#[] }
section
variable {prog:Program} {w:World} {A:Around} {E:Value→Shared→Prop} {s:Shared}
def Zst (h:Heap) (z TI TO i1 i2 l1 l2 S:Addr) (xs ys:Array Value) (i:Nat):Prop:=
 IsPair h TI (.ref i1) (.ref i2)∧h.IsListIter i1 l1 i∧h.IsListIter i2 l2 i∧h.IsList l1 xs∧h.IsList l2 ys ∧
  ((IsZip h z TI TO .none∧∃ a b,IsPair h TO a b)∨∃ (a:Addr) (f:Bool) (oa:Obj),IsZipF h z TI TO (rawInt a) f∧h.get? a=some oa∧a≠z∧a≠i1∧a≠i2∧a≠S)
structure ZG (xs ys:Array Value) (lo:Addr) (h:Heap) (as:List Addr):Prop where
 rise:as.Pairwise (· < ·)
 above:∀ a∈as,lo < a
 pairs:∀ (j:Nat) (a:Addr),as[j]? = some a→∃ x y,xs[j]? = some x∧ys[j]? = some y∧IsPair h a x y
theorem ZG.there {xs ys:Array Value} {lo:Addr} {h:Heap} {as:List Addr} (g:ZG xs ys lo h as) {a:Addr} (ha:a∈as):a < h.objs.size:=by
 obtain ⟨j,hj⟩:=List.mem_iff_getElem?.mp ha
 obtain ⟨_,_,_,_,e⟩:=g.pairs j a hj
 exact Heap.lt_size e
theorem Zst.keep {h h' : Heap} {z TI TO i1 i2 l1 l2 S:Addr} {xs ys:Array Value} {i:Nat} (x:Zst h z TI TO i1 i2 l1 l2 S xs ys i) (hk:∀ b o,b≠S→h.get? b=some o→h'.get? b=some o) (q:z≠S∧TI≠S∧TO≠S∧i1≠S∧i2≠S∧l1≠S∧l2≠S):Zst h' z TI TO i1 i2 l1 l2 S xs ys i:=by
 obtain ⟨hTI,h1,h2,hl1,hl2,hc⟩:=x
 obtain ⟨q1,q2,q3,q4,q5,q6,q7⟩:=q
 refine ⟨hk _ _ q2 hTI,h1.at fun o e=>hk _ o q4 e,h2.at fun o e=>hk _ o q5 e,hl1.at fun o e=>hk _ o q6 e,hl2.at fun o e=>hk _ o q7 e,?_⟩
 rcases hc with ⟨hz,a,b,hTO⟩ | ⟨a,f,oa,hz,ha,az,a1,a2,aS⟩
 ·exact .inl ⟨hk _ _ q1 hz,a,b,hk _ _ q3 hTO⟩
 ·exact .inr ⟨a,f,oa,hk _ _ q1 hz,hk _ _ aS ha,az,a1,a2,aS⟩
section
variable {prog:Program} {w:World} {A:Around} {s:Shared} {R:Result→Shared→Prop} {xs ys:Array Value}
end
end
section
variable {X:Cx} {e e2:Expr} {ta:TA} {p zp cpos pos:Pos}
end
end ZL

set_option maxHeartbeats 2000000
namespace L2
open PySem PySem.Spec PyProof.Rows
section
variable {X:Cx} {pins:List (Addr × Obj)} {σ:St} {H:Hp} {s:Shared} {a:Addr} {y v:V} {u r:Value} {o:Option V} {A:Around} {E:Value→Shared→Prop}
end
section
variable {X:Cx} {o e f:Expr} {td ty tx:TE} {p pos apos cpos:Pos}
end
section
variable {X:Cx}
end
end L2
namespace TT
open PySem PySem.Spec PyProof.Rows L2
variable [TabI]
def dropP (ps:List (D × D)) (k:D):List (D × D):=ps.filter fun p=>!eqvD p.1 k
section
variable {X:Cx} {c:Ct} {G:Hp} {μ:List Addr} {ρ:Ev} {m:Mem} {σ:L2.St} {H:Hp} {o e f:Expr} {fo fe ff:E} {l:EL} {k:Nat} {p zp pos apos cpos kpos:Pos}
theorem RepN.drop {K:PySem.W.Frag} {mg:Str→Option Value} {xo:XO} {k:D} (hk:keyN k=true):∀ {ps:List (D × D)} {xs:List (NestedKey × Addr × Value)},RepN K mg xo G μ ps xs→RepN K mg xo G μ (dropP ps k) (withoutH xs (nkey k))
 | _,_,.nil=>.nil
 | _,_,.cons (d:=d) (e:=e) (b:=b) (u:=u) (ps:=ps) (xs:=xs) h q r l t=>by
  have ed:=qcP h hk
  have ih:=RepN.drop hk t
  unfold dropP withoutH at ih ⊢
  by_cases z:nkey d=nkey k
  ·have e1:(!eqvD d k)=false:=by rw [ed,z]; simp
   rw [List.filter_cons_of_neg (by simp [e1]),List.filter_cons_of_neg (by simp [z])]
   exact ih
  ·have e1:(!eqvD d k)=true:=by rw [ed]; simp [z]
   rw [List.filter_cons_of_pos (by simpa using e1),List.filter_cons_of_pos (by simpa using z)]
   exact .cons h q r l ih
theorem RepN.at_ {K:PySem.W.Frag} {mg:Str→Option Value} {xo:XO} {k:D} (hk:keyN k=true) {ps:List (D × D)} {xs:List (NestedKey × Addr × Value)} (h:RepN K mg xo G μ ps xs) :
  (∀ d,getP ps k=some d→∃ p v,atKey xs (nkey k)=some p∧RelV v p.2∧Rep K mg xo G μ d v)∧(getP ps k=none→atKey xs (nkey k)=none):=by
 obtain ⟨r,h0,h1,h2⟩:=h.val hk
 refine ⟨fun d hd=>?_,fun hn=>?_⟩
 ·obtain ⟨v,rfl,rv⟩:=h2 d hd
  obtain ⟨w',hw,rw'⟩:=RelO.some_of h0
  obtain ⟨p,hp,hp2⟩:=wad.mp hw
  subst hp2
  exact ⟨p,v,hp,rw',rv⟩
 ·rw [hn] at h1
  cases r with
  | some v=>cases h1
  | none=>
   cases hk2:atKey xs (nkey k) with
   | none=>rfl
   | some p=>rw [hk2] at h0; exact (show False from h0).elim
theorem RepN.off {K:PySem.W.Frag} {mg:Str→Option Value} {xo:XO} {μ' : List Addr}:∀ {ps:List (D × D)} {xs:List (NestedKey × Addr × Value)},noLocP ps=true→RepN K mg xo G μ ps xs→RepN K mg xo G μ' ps xs
 | _,_,_,.nil=>.nil
 | _,_,n,.cons h q r l t=>by
  simp only [noLocP,wac] at n
  exact .cons h (Rep.off n.1.1 q) (Rep.off n.1.2 r) l (RepN.off n.2 t)
end
end TT

namespace TT
open PySem
section
variable {ρ ρ1 ρ2:Ev} {m m1 m2 m3:Mem} {a b c o v:E} {l:EL} {x y d k:D}
theorem qiO {α:Type} {g:T} {p:S} (i:α→D) (sr:List α→Ev) (sm:List α→Mem) (xs:List α) (hs:∀ d x r,xs=d++x::r→∃ ρ',g (i x) (sr d)=some ρ'∧p ρ' (sm d) = .nx (sr (d++[x])) (sm (d++[x]))) :
  forL g p (xs.map i) (sr []) (sm []) = .nx (sr xs) (sm xs):=by
 have key:∀ (r d:List α),xs=d++r→forL g p (r.map i) (sr d) (sm d) = .nx (sr xs) (sm xs):=by
  intro r
  induction r with
  | nil=>intro d h; rw [wa0] at h; subst h; rfl
  | cons x r ih=>
   intro d h
   obtain ⟨ρ',h1,h2⟩:=hs d x r h
   rw [wah,qaL,h1]
   simp only [h2]
   exact ih (d++[x]) (by rw [h]; simp)
 exact key xs [] rfl
end
instance (priority:=low) tab0:TabI:=⟨[]⟩
end TT

set_option maxHeartbeats 2000000
namespace TT
open PySem PySem.Spec PyProof.Rows L2
variable [TabI]
def FnO (f:Addr) (o:Obj):HO:=.ext fun h=>h.get? f=some o
theorem qm2 {P:Program} {w:World} {H:Hp} {h:Heap} {f:Addr} {o:Obj} (x:HOk P w H h) (e:H f=some (FnO f o)):h.get? f=some o:=(x f _ e).1
theorem qiP {P:Program} {w:World} {H:Hp} {h:Heap} {c:Addr} {q:Str} (x:HOk P w H h) (e:H c=some (LamX.CodeO c q)):h.CodeRec (.ref c) q:=
 let ⟨⟨oc,us,t,h1,h2,h3⟩,_,_⟩:=x c _ e
 ⟨c,oc,us,t,rfl,h1,h2,h3⟩
structure LamS1 (sc scope:Scope) (a:Str):Prop where
 kind:scope.kind = .function
 co:scope.isCoroutine=false
 gen:scope.isGenerator=false
 par:scope.names.lookup a=some .local
 own:∀ y∈scope.names,y.2≠.cell∧(y.2 = .local→y.1=a)
 free:∀ y∈scope.names,y.2 = .free→sc.names.lookup y.1=some .cell∨sc.names.lookup y.1=some .free
theorem LamS1.has {X:Cx} {scope:Scope} {a:Str} (L:LamS1 X.env.scope scope a) (ok:X.Ok):∀ y∈scope.names,y.2 = .free→∃ c,X.env.cells.lookup y.1=some c:=fun y hy e=>
 (L.free y hy e).elim (fun k=>ok.has _ (.inl k)) fun k=>ok.has _ (.inr k)
abbrev clo (X:Cx) (scope:Scope):List (Str × Addr):=cloFrom X.env.cells scope.names []
theorem qfP {X:Cx} {scope:Scope} {y:Str} (hl:scope.names.lookup y=some .free):∃ c,(clo X scope).lookup y=some c:=
 mem_lookup (cloFrom_has (cells:=X.env.cells) (acc:=[]) (PySem.mem_of_lookup hl))
abbrev lamObj (X:Cx) (params:Arguments) (body:Expr) (scope:Scope) (pm:Value) (c' : Addr) (ctv:Value):Obj:=PySem.W.kla_obj "<lambda>" (X.env.qual ++ "<lambda>") params body scope (clo X scope) pm c' ctv
def tLam (P:Addr) (q:Str) (mk:Value→Addr→Value→Obj):TE:=fun _ H Q=>∃ ps:Array Value,H P=some (.tbl ps)∧TriplesOk ps.toList∧(∀ (pos:Pos) (cv:Value),codeAmong pos ps.toList=some cv→∃ c,cv = .ref c∧H c=some (LamX.CodeO c q)) ∧
 (∀ (pos:Pos) (f c' : Addr) (pm ctv:Value),codeAmong pos ps.toList=some (.ref c')→H f=none→Q (.ref f) (upd H f (FnO f (mk pm c' ctv)))) ∧
 (∀ (pos:Pos) (f c' : Addr) (pm ctv:Value),H c' = none→H f=none→f≠c'→Q (.ref f) (upd (upd (upd H P (.tbl (ps ++ #[rawInt pos.line,rawInt pos.col,.ref c']))) c' (LamX.CodeO c' q)) f (FnO f (mk pm c' ctv))))
section
variable {X:Cx}
theorem qhn {P:Program} {w:World} {H:Hp} {h:Heap} {o:Obj} (hf:o.isFreed=false):ObjOk P w H (h.push o) h.objs.size (FnO h.objs.size o):=
 ⟨Heap.get?_push_size _ hf,⟨o,Heap.get?_push_size _ hf⟩,fun _ _ e k=>k _ e⟩
end
section
variable {c:Ct} {G:Hp} {μ:List Addr} {ρ:Ev} {m:Mem} {σ:L2.St} {H:Hp}
theorem qge {pos p' : Pos} {c cv:Value} (l:List Value) (h:TriplesOk l) (hc:codeAmong p' (l++[rawInt pos.line,rawInt pos.col,c])=some cv):codeAmong p' l=some cv∨cv=c:=LamX.among_app l h hc
theorem MemOk.code (h:MemOk c G μ m H) {P c' : Addr} {q:Str} {ps:Array Value} {pos:Pos} (hm:(P,q)∈TabI.T) (hu:∀ p∈TabI.T,p.1=P→p.2=q) (hP:H P=some (.tbl ps)) (hc:H c' = none) :
  MemOk c (upd G c' (LamX.CodeO c' q)) μ m (upd (upd H P (.tbl (ps ++ #[rawInt pos.line,rawInt pos.col,.ref c']))) c' (LamX.CodeO c' q))∧Gr G μ (upd G c' (LamX.CodeO c' q)) μ:=by
 obtain ⟨gc,bc,mc⟩:=h.fresh hc
 have T:=h.tb _ hm
 have nPc:P≠c':=T.ne0 hc
 have g:Gr G μ (upd G c' (LamX.CodeO c' q)) μ:=⟨fun b u e=>by rw [upd_ne (ne_of_none e gc)]; exact e,wai _⟩
 have keep:∀ b o,b≠P→H b=some o→upd (upd H P (.tbl (ps ++ #[rawInt pos.line,rawInt pos.col,.ref c']))) c' (LamX.CodeO c' q) b=some o:=fun b o n e=>by
  rw [upd_ne (ne_of_none e hc),upd_ne n]
  exact e
 have atP:upd (upd H P (.tbl (ps ++ #[rawInt pos.line,rawInt pos.col,.ref c']))) c' (LamX.CodeO c' q) P=some (.tbl (ps ++ #[rawInt pos.line,rawInt pos.col,.ref c'])):=by
  rw [upd_ne nPc,upd_same]
 refine ⟨⟨fun b u e=>?_,fun b u e=>keep b u (fun z=>by rw [z,T.b] at e; cases e) (h.bh b u e),h.g0.trans g.g,fun a u e1 e2=>?_,h.ml,h.nd,fun n a k e1 e2=>?_,fun a ha=>?_,h.mb,fun p hp=>?_⟩,g⟩
 ·by_cases hb:b=c'
  ·subst hb
   rw [upd_same] at e ⊢
   exact e
  ·rw [upd_ne hb] at e
   exact keep b u (fun z=>by rw [z,T.g] at e; cases e) (h.gh b u e)
 ·rw [upd_ne (ne_of_none e1 bc)]
  exact h.gb a u e1 e2
 ·have na:a≠c':=fun z=>mc (z ▸ waf e1)
  have nP:a≠P:=fun z=>T.m (z ▸ waf e1)
  refine CellOk.mono g (fun z=>by rw [upd_ne na]; exact z) (fun b e z=>by rw [upd_ne (ne_of_none e hc)]; exact z) (fun b o hw e=>keep b o ?_ e) (h.cell n a k e1 e2)
  rcases hw with rfl | rfl
  ·exact nP
  ·intro z
   rw [z,hP] at e
   cases e
 ·cases e:H a with
  | none=>exact absurd e (h.used a ha)
  | some o=>
   rw [keep a o (fun z=>T.m (z ▸ ha)) e]
   simp
 ·have U:=h.tb p hp
  have npc:p.1≠c':=U.ne0 hc
  by_cases hb:p.1=P
  ·have hq:=hu p hp hb
   obtain ⟨ps',t1,t2,t3⟩:=U.t
   rw [hb,hP] at t1
   cases t1
   have eL:(ps ++ #[rawInt pos.line,rawInt pos.col,.ref c']).toList=ps.toList++[rawInt pos.line,rawInt pos.col,.ref c']:=by simp
   refine ⟨by rw [upd_ne npc]; exact U.g,U.b,U.m,_,by rw [hb]; exact atP,by rw [eL]; exact PySem.TriplesOk_snoc _ _ _ _ t2,fun p' cv hcv=>?_⟩
   rw [eL] at hcv
   rcases qge _ t2 hcv with z | z
   ·obtain ⟨a,e1,e2⟩:=t3 p' cv z
    exact ⟨a,e1,g.g _ _ e2⟩
   ·exact ⟨c',z,by rw [upd_same,hq]⟩
  ·exact U.up g.g (by rw [upd_ne npc]; exact U.g) U.b U.m (by rw [upd_ne npc,upd_ne hb])
structure More (G H G' H' : Hp):Prop where
 kept:∀ b o,H b=some o→¬ IsTab b→H' b=some o
 seen:∀ b,H b≠none→H' b≠none
 gone:∀ b o,H b=some o→G b=none→G' b=none
theorem More.trans {G H G1 H1 G2 H2:Hp} (a:More G H G1 H1) (b:More G1 H1 G2 H2) (t:∀ x o,H x=Option.some o→IsTab x→G2 x=none):More G H G2 H2:=
 ⟨fun x o e n=>b.kept x o (a.kept x o e n) n,fun x e=>b.seen x (a.seen x e),fun x o e z=>by
  by_cases n:IsTab x
  ·exact t x o e n
  ·exact b.gone x o (a.kept x o e n) (a.gone x o e z)⟩
theorem Sim.lam (S:Sim c G μ ρ m σ H) {P:Addr} {q:Str} {mk:Value→Addr→Value→Obj} {Q:VK} (hm:(P,q)∈TabI.T) (hu:∀ p∈TabI.T,p.1=P→p.2=q)
  (h:∀ (f c' : Addr) (pm ctv:Value) (H' G' : Hp),Sim c G' μ ρ m σ H'→Gr G μ G' μ→H f=none→G' f=some (FnO f (mk pm c' ctv))→G' c' = some (LamX.CodeO c' q)→More G H G' H'→Q (.ref f) H'):tLam P q mk σ H Q:=by
 have T:=S.mem.tb _ hm
 obtain ⟨ps,h1,h2,h3⟩:=T.t
 refine ⟨ps,h1,h2,fun pos cv e=>let ⟨a,e1,e2⟩:=h3 pos cv e; ⟨a,e1,S.mem.gh _ _ e2⟩,fun pos f c' pm ctv e hf=>?_,fun pos f c' pm ctv hc hf hn=>?_⟩
 ·obtain ⟨a,e1,e2⟩:=h3 pos _ e
  obtain rfl:c' = a:=Value.ref.inj e1
  obtain ⟨S2,g2⟩:=S.alloc hf (FnO f (mk pm c' ctv))
  exact h f c' pm ctv _ _ S2 g2 hf upd_same (g2.g _ _ e2) ⟨fun b o e _=>by rw [upd_ne (ne_of_none e hf)]; exact e,fun b e z=>e (by
   by_cases hb:b=f
   ·rw [hb]; exact hf
   ·rw [upd_ne hb] at z; exact z),fun b o e z=>by rw [upd_ne (ne_of_none e hf)]; exact z⟩
 ·obtain ⟨M1,g1⟩:=S.mem.code (pos:=pos) hm hu h1 hc
  have S1:=S.gr M1 g1
  have hf' : upd (upd H P (.tbl (ps ++ #[rawInt pos.line,rawInt pos.col,.ref c']))) c' (LamX.CodeO c' q) f=none:=by
   rw [upd_ne hn,upd_ne (fun z=>by rw [z,h1] at hf; cases hf)]
   exact hf
  obtain ⟨S2,g2⟩:=S1.alloc hf' (FnO f (mk pm c' ctv))
  refine h f c' pm ctv _ _ S2 (g1.trans g2) hf upd_same (g2.g _ _ upd_same) ⟨fun b o e n=>?_,fun b e z=>e ?_,fun b o e z=>?_⟩
  ·rw [upd_ne (ne_of_none e hf),upd_ne (ne_of_none e hc),upd_ne (fun y=>n ⟨_,hm,y.symm⟩)]
   exact e
  ·by_cases b1:b=f
   ·rw [b1]; exact hf
   ·by_cases b2:b=c'
    ·rw [b2]; exact hc
    ·rw [upd_ne b1,upd_ne b2] at z
     by_cases b3:b=P
     ·rw [b3,upd_same] at z; cases z
     ·rw [upd_ne b3] at z; exact z
  ·rw [upd_ne (ne_of_none e hf),upd_ne (ne_of_none e hc)]
   exact z
end
abbrev lamEnv1 (q:Str) (scope:Scope) (cl:List (Str × Addr)) (l f c' : Addr):Env:=PySem.W.envX (q ++ "<lambda>") scope l f (.ref c') cl
def lamCx1 (P:Program) (w:World) (K:PySem.W.Frag) (mg:Str→Option Value) (base:Heap) (N:List Str) (q:Str) (scope:Scope) (cl:List (Str × Addr)) (f c' : Addr) (A:Around) (outer:List Env) (s:Shared) (H:Hp) (E:XK):Cx:=
 {prog:=P,w:=w,K:=K,mg:=mg,base:=base,A:=A.deeper (lamEnv1 q scope cl s.heap.objs.size f c'),N:=N,s_0:=s,H_0:=H,env:=lamEnv1 q scope cl s.heap.objs.size f c',outer:=outer,stack:=lamEnv1 q scope cl s.heap.objs.size f c' :: outer,ex:=[],fn:=fun _=>false,calm:=true,pn:=[],
  xe:=fun e t=>wpAny (model P w) (A.deeper (lamEnv1 q scope cl s.heap.objs.size f c')) (leaving (lamEnv1 q scope cl s.heap.objs.size f c') e) (fun _ t'=>L2.CX P w outer H s E e t') (fun e' t'=>L2.CX P w outer H s E e' t') t }
abbrev noE:XK:=fun _ _ _=>False
abbrev capS (σ:L2.St) (cs:List Nat):L2.St:=cs.map fun i=>(σ[i]?).join
section
variable {X:Cx} {pins:List (Addr × Obj)} {σ:L2.St} {H HZ:Hp} {s s1:Shared}
end
structure LamAt (X:Cx) (pins:List (Addr × Obj)) (σ:L2.St) (s:Shared) (H:Hp) (a:Str) (params:Arguments) (body:Expr) (scope:Scope) (f c' : Addr) (pm ctv:Value) (cs:List Nat) (caps:List Str):Prop where
 inv:Inv X pins σ H s
 sc:LamS1 X.env.scope scope a
 hcs:∀ (j i:Nat) (y:Str),cs[j]? = some i→caps[j]? = some y→X.N[i]? = some y∧scope.names.lookup y=some .free
 len:cs.length=caps.length
 bind:∀ u:Value,bindArgs (PySem.W.kla_fn "<lambda>" (X.env.qual ++ "<lambda>") params body scope (clo X scope) pm (.ref c') ctv) ⟨[u],[]⟩=pure [(a,u)]
section
variable {X:Cx} {pins:List (Addr × Obj)} {σ:L2.St} {H:Hp} {s:Shared}
end
def getC (ρ:Ev):List Nat→Option (List D)
 | []=>some []
 | i::is=>match ρ[i]? with
  | some (some d)=>(getC ρ is).map (d :: ·)
  | _=>none
section
variable {K:PySem.W.Frag} {mg:Str→Option Value} {xo:XO} {G:Hp} {μ:List Addr}
theorem qfQ {ρ:Ev} {σ:L2.St} (h:∀ (i:Nat) (d:D),ρ[i]? = some (some d)→∃ v,σ[i]? = some (some v)∧Rep K mg xo G μ d v):∀ {cs:List Nat} {ds:List D},getC ρ cs=some ds→ds.length=cs.length∧∀ (j:Nat) (d:D),ds[j]? = some d→∃ v,(capS σ cs)[j]? = some (some v)∧Rep K mg xo G μ d v
 | [],ds,e=>by
  obtain rfl:[]=ds:=by simpa [getC] using e
  exact ⟨rfl,fun j d e=>by simp at e⟩
 | i::is,ds,e=>by
  unfold getC at e
  split at e
  ·rename_i d hd
   obtain ⟨r,e1,rfl⟩:=wad.mp e
   obtain ⟨h1,h2⟩:=qfQ h e1
   refine ⟨by simp [h1],fun j d' e'=>?_⟩
   cases j with
   | zero=>
    obtain rfl:d=d':=by simpa using e'
    obtain ⟨v,hv,r'⟩:=h i d hd
    exact ⟨v,by simp [capS,hv],r'⟩
   | succ j=>
    obtain ⟨v,hv,r'⟩:=h2 j d' (by simpa using e')
    exact ⟨v,by simpa [capS] using hv,r'⟩
  ·cases e
theorem qgf {ds:List D} {j:Nat} {d:D} (h:noLocs ds=true) (e:ds[j]? = some d):noLoc d=true:=by
 induction ds generalizing j with
 | nil=>simp at e
 | cons x xs ih=>
  simp only [noLocs,wac] at h
  cases j with
  | zero=>
   obtain rfl:x=d:=by simpa using e
   exact h.1
  | succ j=>exact ih h.2 (by simpa using e)
end
section
variable {X:Cx} {pins:List (Addr × Obj)} {σX:L2.St} {H:Hp} {s:Shared}
end
theorem qeu {K:PySem.W.Frag} {mg:Str→Option Value} {xo:XO} {G:Hp} {μ:List Addr} {N:List Str} {ds:List D} {vs:List V} (R1:RepL K mg xo G μ ds vs):(∀ (i:Nat) (d:D),(ds.map some++List.replicate (N.length - ds.length) none)[i]? = some (some d)→∃ v,(L2.start N vs)[i]? = some (some v)∧Rep K mg xo G μ d v) ∧
  (ds.map some++List.replicate (N.length - ds.length) none).length=(L2.start N vs).length:=by
 refine ⟨fun i d e=>?_,by unfold L2.start; simp [R1.length]⟩
 by_cases hi:i < ds.length
 ·rw [waq (by simpa using hi),wal] at e
  have e:ds[i]? = some d:=by
   cases q:ds[i]? with
   | none=>rw [q] at e; simp at e
   | some z=>rw [q] at e; simpa using e
  obtain ⟨v,hv,r⟩:=R1.get e
  refine ⟨v,?_,r⟩
  unfold L2.start
  rw [waq (by rw [waa,← R1.length]; exact hi),wal,hv]
  rfl
 ·rw [waH (by simpa using hi)] at e
  obtain ⟨h1,h2⟩:=waj.mp e
  rw [List.getElem_replicate] at h2
  cases h2
section
variable {X:Cx} {c:Ct}
structure LamHere (X:Cx) (a:Str) (params:Arguments) (body:Expr) (scope:Scope) (cs:List Nat) (caps:List Str) (eb:E) (k:Nat):Prop where
 sc:LamS1 X.env.scope scope a
 hcs:∀ (j i:Nat) (y:Str),cs[j]? = some i→caps[j]? = some y→X.N[i]? = some y∧scope.names.lookup y=some .free
 len:cs.length=caps.length
 nd:(a::caps).Nodup
 dflt:∀ env:Env,defaultsOf params env=([],[])
 bind:∀ (q:Str) (cl:List (Str × Addr)) (pm cv ctv u:Value),bindArgs (PySem.W.kla_fn "<lambda>" q params body scope cl pm cv ctv) ⟨[u],[]⟩=pure [(a,u)]
 run:∀ (c2:Ct),c2.xo=none→∀ (cl:List (Str × Addr)) (f c' : Addr) (A:Around) (outer:List Env) (t:Shared) (H1:Hp),Fit (lamCx1 X.prog X.w X.K X.mg X.base (a::caps) X.env.qual scope cl f c' A outer t H1 noE) c2 k →
  PE (lamCx1 X.prog X.w X.K X.mg X.base (a::caps) X.env.qual scope cl f c' A outer t H1 noE) body (rE c2 eb)
end
theorem qm3 {P:Program} {w:World} {K:PySem.W.Frag} {mg:Str→Option Value} {base:Heap} {x qual:Str} {st:Stmt} {a cc:Addr} {kV doc pm ct oc:Value} {an od:Option Addr} {osl:Array (Option Value)} {N ps:List Str} {k:Nat} {b:S} {n:Nat}
  (lk:K.lookup a=some ⟨oc,od,.func (PySem.W.fnOf x qual (defArgs st) (defBody st) (defScope st) .none kV doc pm an (.ref cc) ct),osl⟩) (hcd:PySem.W.codeIn K (.ref cc) qual=true) (Sc:FnScope N ps (defScope st)) (hn:ps.length=n)
  (hbody:∀ (c:Ct) (xo:c.xo=none) (A:Around) (outer:List Env) (s:Shared) (H:Hp) (E:XK),Fit (cxOf (L2.CX P w) P w K mg base N qual (defScope st) a (.ref cc) A outer s H E) c k →
   PSs (cxOf (L2.CX P w) P w K mg base N qual (defScope st) a (.ref cc) A outer s H E) (defBody st) (rS c b)) :
  FnOk P w K mg base (L2.CX P w) (k+1) a (PySem.W.fnOf x qual (defArgs st) (defBody st) (defScope st) .none kV doc pm an (.ref cc) ct) ps (spD K mg w n (runDef N.length b)):=by
 refine fn_of lk hcd Sc (fun vs H Q E h=>h.1.trans hn.symm) (fun A outer s H vs Q E hr h=>?_)
 obtain ⟨hl,ds,m,B,G,μ,M,R1,h⟩:=h
 obtain ⟨env1,len3⟩:=qeu (N:=N) R1
 refine ⟨rS ⟨K,mg,w,none,B,G,fun cc d _ H=>E cc d H⟩ b,hbody _ rfl A outer s H E ⟨rfl,rfl,rfl,rfl,takes_of rfl rfl rfl rfl,passes_of rfl,hr,Sc.nd⟩,ds.map some++List.replicate (N.length - ds.length) none,m,G,μ,⟨M.w,env1,len3⟩,?_⟩
 have h:match (b (ds.map some++List.replicate (N.length - ds.length) none) m).end with
  | .ok d m'=>∀ v H' G' μ',MemOk ⟨K,mg,w,none,B,G,fun _ _ _ _=>False⟩ G' μ' m' H'→Gr G μ G' μ'→Rep K mg none G' μ' d v→Q v H'
  | .exc e m'=>∀ cc dd H' G' μ',MemOk ⟨K,mg,w,none,B,G,fun _ _ _ _=>False⟩ G' μ' m' H'→Gr G μ G' μ'→ExcAt mg e cc dd G'→E cc dd H'
  | .bad=>False:=h
 cases eb:b (ds.map some++List.replicate (N.length - ds.length) none) m with
 | nx ρ3 m3=>
  rw [eb] at h
  exact fun σ3 H3 G3 μ3 S3 g3=>h .non H3 G3 μ3 S3.mem.w g3 .non
 | rt d3 m3=>
  rw [eb] at h
  exact fun v H3 G3 μ3 M3 g3 r3=>h v H3 G3 μ3 M3.w g3 r3
 | exc x3 ρ3 m3=>
  rw [eb] at h
  exact fun cc dd σ3 H3 G3 μ3 S3 g3 x1=>h cc dd H3 G3 μ3 S3.mem.w g3 x1
 | bk ρ3 m3=>rw [eb] at h; exact h.elim
 | ct ρ3 m3=>rw [eb] at h; exact h.elim
 | bad=>rw [eb] at h; exact h.elim
end TT
namespace TT
open PySem PySem.Spec PyProof.Rows L2
theorem qiQ {l:PySem.W.OpenLaw} {w:World} {K:PySem.W.Frag} {k:Nat} {mg:Str→Option Value} {fa:Addr} {h:Heap} {fd:FuncData} (cs:List (Addr × Addr × Str)) (X:K.In h)
  (tabs:∀ P∈cs.map (·.2.1),h.get? P=some { cls:=.none,data:=.fields #[] }) (nk:∀ p∈cs,K.lookup p.2.1=none) (hd:∀ p∈cs,PySem.W.codeHdIn K p.1 p.2.1=true)
  (hb:∀ (s:Shared) (v:Value),BindsTo s fd ⟨[v],[]⟩ [("_law_script",v)])
  (F:∀ base:Heap,K.In base→base.Ns mainGlobals mg→(∀ p∈cs,LamX.TabB base mg p.1 p.2.1)→FnOk l.prog w K mg base (L2.CX l.prog w) k fa fd ["_law_script"] (@spLaw ⟨cs.map (·.2)⟩ K)) :
  LamX.LawAtS l w K (L2.CX l.prog w) k 63 "_law_script" mg fa h:=by
 have mem:∀ p∈cs.map (fun q=>(q.1,q.2.1)),∃ q∈cs,p=(q.1,q.2.1):=fun p hp=>by
  obtain ⟨q,hq,e⟩:=wae.mp hp
  exact ⟨q,hq,e.symm⟩
 refine ⟨fd,cs.map (fun q=>(q.1,q.2.1)),@spLaw ⟨cs.map (·.2)⟩ K,fun p hp=>?_,fun p hp=>?_,fun p hp=>?_,hb,fun H a ns hl _ hT hS=>?_,fun base KB G hT=>F base KB G fun q hq=>hT _ (wae.mpr ⟨q,hq,rfl⟩)⟩
 ·obtain ⟨q,hq,rfl⟩:=mem p hp
  exact tabs _ (wae.mpr ⟨q,hq,rfl⟩)
 ·obtain ⟨q,hq,rfl⟩:=mem p hp
  exact nk q hq
 ·obtain ⟨q,hq,rfl⟩:=mem p hp
  exact PySem.W.codeHd_of_K X (hd q hq)
 ·refine ⟨a,ns,rfl,hS,hl,fun p hp=>?_,fun _=>rfl⟩
  obtain ⟨q,hq,rfl⟩:=wae.mp hp
  exact hT _ (wae.mpr ⟨q,hq,rfl⟩)
theorem qjy {N:List Str} {scope:Scope} {cs:List Nat} {caps:List Str} (h:((cs.zip caps).all fun p=>decide (N[p.1]? = some p.2) && decide (scope.names.lookup p.2=some .free))=true) :
  ∀ (j i:Nat) (y:Str),cs[j]? = some i→caps[j]? = some y→N[i]? = some y∧scope.names.lookup y=some .free:=fun j i y e1 e2=>by
 have hm:(i,y)∈cs.zip caps:=waf (i:=j) (by rw [List.getElem?_zip_eq_some]; exact ⟨e1,e2⟩)
 have z:=wag.mp h _ hm
 simp only [wac,decide_eq_true_eq] at z
 exact z
theorem qn0 {T:List (Addr × Str)} {P:Addr} {q:Str} (h:(T.all fun p=>decide (p.1=P→p.2=q))=true):∀ p∈T,p.1=P→p.2=q:=fun p hp=>by
 have z:=wag.mp h p hp
 exact of_decide_eq_true z
end TT

set_option maxHeartbeats 2000000
namespace L2
open PySem PySem.Spec PyProof.Rows
end L2
namespace TT
open PySem PySem.Spec PyProof.Rows L2
variable [TabI]
section
variable {X:Cx} {c:Ct} {G:Hp} {μ:List Addr} {ρ:Ev} {m:Mem} {σ:L2.St} {H:Hp}
end
end TT

set_option maxHeartbeats 2000000
namespace L2
open PySem PySem.Spec PyProof.Rows
section
variable {X:Cx} {a b c d:Expr} {pos:Pos} {ta tb tc td:TE}
end
end L2
namespace TT
open PySem PySem.Spec PyProof.Rows L2
variable [TabI]
section
variable {X:Cx} {c:Ct} {G:Hp} {μ:List Addr} {ρ:Ev} {m:Mem} {σ:L2.St} {H:Hp}
end
end TT

set_option maxHeartbeats 2000000
namespace L2
open PySem PySem.Spec PyProof.Rows
section
variable {X:Cx}
end
section
variable {X:Cx} {o e f:Expr} {td ty tx:TE} {p pos apos cpos:Pos}
end
end L2
namespace TT
open PySem PySem.Spec PyProof.Rows L2
variable [TabI]
section
variable {X:Cx} {c:Ct} {G:Hp} {μ:List Addr} {ρ:Ev} {m:Mem} {σ:L2.St} {H:Hp} {o e f:Expr} {fo fe ff:E} {l:EL} {pos p apos cpos:Pos} {k:Nat}
end
end TT

namespace TT
open PySem
variable [TabI]
section
variable {ρ ρ1 ρ2:Ev} {m m1 m2 m3:Mem} {a b c e o v:E} {l:EL} {x y d k:D}
end
end TT

set_option maxHeartbeats 2000000
namespace TT
open PySem PySem.Spec PyProof.Rows L2
variable [TabI]
section
variable {X:Cx} {c:Ct}
theorem xs_s {i:Nat} {x:Str} {e:Expr} {f:E} {pos pos' : Pos} (hN:X.N.Nodup) (he:PE X e (rE c f)) (hi:X.N[i]? = some x:=by rfl) (hx:Loc X.env.scope x:=by exact .inl rfl) (hs:swapsWith e (some (.Name x pos')) pos.line X.env=pure false:=by rfl) (hf:X.fn x=true∨X.env.scope.names.lookup x=some .local:=by first | exact .inl rfl | exact .inr rfl | assumption) :
  PS X (.Assign [.Name x pos'] e pos) (rS c (sSet i f)):=qaI hN hi hx he hs hf
theorem xs_r {i:Nat} {x:Str} {e:Expr} {f:E} {pos pos' : Pos} (hN:X.N.Nodup) (he:PE X e (rE c f)) (hi:X.N[i]? = some x:=by rfl) (hx:Loc X.env.scope x:=by exact .inr rfl) (hs:swapsWith e (some (.Name x pos')) pos.line X.env=pure false:=by rfl) (hf:X.fn x=true∨X.env.scope.names.lookup x=some .local:=by first | exact .inl rfl | exact .inr rfl | assumption) :
  PS X (.Assign [.Name x pos'] e pos) (rS c (sSet i f)):=qaI hN hi hx he hs hf
theorem xe_c {M:Bool} {k j n:Nat} {f:F} {l:EL} {x:Str} {p pos:Pos} {e:Expr} {es:List Expr} (F:Fit X c k) (hxo:c.xo=none) (C:Callee X.prog X.w X.K X.mg X.base j x n f) (ha:PA X (e::es) (rL c l)) (hj:j≤k:=by decide) (hg:Gl X x:=by rfl) (hdb:(x == ("__debug__" : Str))=false:=by decide)
  (he:starEach (e::es) X.env=(false,eval e X.env)::starEach es X.env:=by rfl) (hpl:(backTo pos (starEach es X.env)).any (·.1)=false:=by rfl):PE X (.Call (.Name x p) (e::es) [] pos) (rE c (eCall M n f l)):=
 qa9 F hxo C hj hg ha hdb he hpl
theorem qev {k:Nat} {M:Bool} {elt tg iter:Expr} {ifs:List Expr} {scope:Scope} {pos:Pos} {f:EL} {g:T} {sl:List Nat} {t:ET} {e:E} (F:Fit X c k) (hi:PI X tg iter (rIt c f)) (own:List (Str × Nat))
  (hg:∀ {B:Hp} {s:Shared} {H:Hp} {C:Addr} {cl:List (Str × Addr)} {fp:List Addr},Fit (X.blk s H scope (compEnvC scope cl C X.env) fp) (c.inn B) k→PG (X.blk s H scope (compEnvC scope cl C X.env) fp) tg (rG (c.inn B) sl g))
  (ht:∀ {B:Hp} {s:Shared} {H:Hp} {C:Addr} {cl:List (Str × Addr)} {fp:List Addr},Fit (X.blk s H scope (compEnvC scope cl C X.env) fp) (c.inn B) k→PTs (X.blk s H scope (compEnvC scope cl C X.env) fp) ifs (rT (c.inn B) t))
  (he:∀ {B:Hp} {s:Shared} {H:Hp} {C:Addr} {cl:List (Str × Addr)} {fp:List Addr},Fit (X.blk s H scope (compEnvC scope cl C X.env) fp) (c.inn B) k→PE (X.blk s H scope (compEnvC scope cl C X.env) fp) elt (rE (c.inn B) e))
  (ok:BlkOk X.N X.env.scope scope own:=by exact blkOk_by (by kernel_rfl)) (hsl:(sl.all fun i=>decide (i∈own.map (·.2)))=true:=by decide +kernel)
  (hs:∀ x,foldedSetIterable iter X.env x=pure x:=by intro _; rfl) :
  PE X (.ListComp elt [⟨tg,iter,ifs,0⟩] scope pos) (rE c (eComp M f g t e (own.map (·.2)))):=
 qjR F hi ok hsl (fun _ _ _ _ _ _ F=>hg F) (fun _ _ _ _ _ _ F=>ht F) (fun _ _ _ _ _ _ F=>he F) hs
end
structure DVQ (P:Program) (w:World) (K:PySem.W.Frag) (mg:Str→Option Value) (base:Heap) (N:List Str) (n:Nat) (x:Str) (st:Stmt) (b:S) (k:Nat) (a:Addr):Prop where
 s:FnScope N (N.take n) (defScope st)
 l:(N.take n).length=n
 d:∀ (c:Ct) (xo:c.xo=none) (cdv:Value) (A:Around) (outer:List Env) (s:Shared) (H:Hp) (E:XK) (F:Fit (cxOf (L2.CX P w) P w K mg base N x (defScope st) a cdv A outer s H E) c k),PSs (cxOf (L2.CX P w) P w K mg base N x (defScope st) a cdv A outer s H E) (defBody st) (rS c b)
theorem fn_q {P:Program} {w:World} {K:PySem.W.Frag} {mg:Str→Option Value} {base:Heap} {x qual:Str} {st:Stmt} {a:Addr} {fd:FuncData} {N:List Str} {k:Nat} {b:S} {n:Nat} (Fn:Fun K x qual st a fd) (d:DVQ P w K mg base N n qual st b k a) :
  FnOk P w K mg base (L2.CX P w) (k+1) a fd (N.take n) (spD K mg w n (runDef N.length b)):=qnx Fn d.s d.l d.d
end TT

set_option maxHeartbeats 2000000
namespace TT
open PySem PySem.Spec PyProof.Rows L2
variable [TabI]
section
variable {K:PySem.W.Frag} {mg:Str→Option Value} {G Gx:Hp} {μ:List Addr} {m:Mem}
end
section
variable {X:Cx} {c:Ct} {G G' : Hp} {μ μ' : List Addr} {ρ:Ev} {m m' : Mem} {σ:L2.St} {H:Hp}
end
end TT

set_option maxHeartbeats 2000000
namespace L2
open PySem PySem.Spec PyProof.Rows
section
variable {X:Cx}
end
end L2
namespace TT
open PySem PySem.Spec PyProof.Rows L2
variable [TabI]
section
variable {X:Cx} {c:Ct} {G:Hp} {μ:List Addr} {ρ:Ev} {m:Mem} {σ:L2.St} {H:Hp} {o:Expr} {fo:E} {pos p:Pos} {k:Nat}
end
section
variable {ρ:Ev} {m m1:Mem} {o:E}
end
end TT

set_option maxHeartbeats 2000000
namespace TT
open PySem PySem.Spec PyProof.Rows L2
variable [TabI]
section
variable {X:Cx} {c:Ct} {G:Hp} {μ:List Addr} {tg:Expr}
end
section
variable {X:Cx} {c:Ct} {a:Expr} {fa:E} {pos p p2 pos2:Pos} {k:Nat}
end
section
variable {ρ:Ev} {m m1:Mem} {l:EL}
end
end TT

set_option maxHeartbeats 2000000
namespace ZL
open PySem PySem.Spec PyProof.Rows L2
section
variable {X:Cx} {e e2:Expr} {ta:TA} {p zp cpos pos:Pos}
end
end ZL
namespace TT
open PySem PySem.Spec PyProof.Rows L2
variable [TabI]
section
variable {X:Cx} {c:Ct} {G:Hp} {μ:List Addr} {e f:Expr} {l:EL} {p zp cpos pos:Pos} {k:Nat}
end
section
variable {ρ:Ev} {m m1:Mem} {l:EL}
end
end TT

set_option maxHeartbeats 2000000
namespace ZL
open PySem PySem.Spec PyProof.Rows L2
abbrev KVN:List (NestedKey × Addr × V)→List (NestedKey × Addr × Value)→Prop:=Paired fun q r=>q.1=r.1∧q.2.1=r.2.1∧RelV q.2.2 r.2.2
section
variable {X:Cx} {a:Expr} {ta:TE} {p pos:Pos}
end
end ZL
namespace TT
open PySem PySem.Spec PyProof.Rows L2 ZL
variable [TabI]
section
variable {X:Cx} {c:Ct} {G H:Hp} {μ:List Addr} {a:Expr} {fa:E} {p pos:Pos} {k:Nat}
end
end TT

set_option maxHeartbeats 2000000
namespace TT
open PySem PySem.Spec PyProof.Rows L2
inductive ItX (K:PySem.W.Frag) (H:Hp):List V→List V→Bool→Prop
 | nil:ItX K H [] [] true
 | data {v u:V} {d e:PyData} {vs us:List V} {r:Bool}:Dp K H v d→Dp K H u e→SeqAt.shaped d=true→SeqAt.shaped e=true→ItX K H vs us r→ItX K H (v::vs) (u::us) (PyData.eqv d e && r)
 | dct {a b:Addr} {vs us:List V} {r:Bool}:H a=some (.dK [])→H b=some (.dK [])→ItX K H vs us r→ItX K H (.ref a::vs) (.ref b::us) r
section
variable {X:Cx} {pins:List (Addr × Obj)} {σ:L2.St} {H:Hp} {s:Shared}
end
section
variable {X:Cx}
def rTX (K:PySem.W.Frag) (neg:Bool):R2:=fun x y H Q=>∃ a b vs us r,x = .ref a∧y = .ref b∧H a=some (.tup vs)∧H b=some (.tup us)∧ItX K H vs us r∧Q (.bl (if neg=true then !r else r)) H
end
section
variable [TabI] {X:Cx} {c:Ct} {G H:Hp} {μ:List Addr} {m:Mem} {a b:Expr} {fa fb:E} {pos:Pos} {k:Nat}
abbrev rrEqT (K:PySem.W.Frag):R2:=fun x y H Q=>rrEq K x y H Q∨rTX K false x y H Q
abbrev rrNeT (K:PySem.W.Frag):R2:=fun x y H Q=>rrNe K x y H Q∨rTX K true x y H Q
end
end TT

set_option maxHeartbeats 2000000
namespace TT
open PySem PySem.Spec PyProof.Rows L2
section
variable {K:PySem.W.Frag} {mg:Str→Option Value} {xo:XO} {G:Hp} {μ:List Addr} {a:Addr} {φ:Heap→Prop}
end
section
variable [TabI]
variable {X:Cx} {c:Ct} {G:Hp} {μ:List Addr} {ρ:Ev} {m:Mem} {σ:L2.St} {H:Hp}
end
end TT

set_option maxHeartbeats 2000000
namespace TT
open PySem PySem.Spec PyProof.Rows L2
variable [TabI]
structure LamS0 (sc scope:Scope):Prop where
 kind:scope.kind = .function
 co:scope.isCoroutine=false
 gen:scope.isGenerator=false
 own:∀ y∈scope.names,y.2≠.cell∧y.2≠.local
 free:∀ y∈scope.names,y.2 = .free→sc.names.lookup y.1=some .cell∨sc.names.lookup y.1=some .free
def lamS0B (sc scope:Scope):Bool:=
 decide (scope.kind = .function) && !scope.isCoroutine && !scope.isGenerator && scope.names.all fun y=>!decide (y.2 = .cell) && !decide (y.2 = .local) && (!decide (y.2 = .free) || decide (sc.names.lookup y.1=some .cell) || decide (sc.names.lookup y.1=some .free))
theorem qfR {sc scope:Scope} (h:lamS0B sc scope=true):LamS0 sc scope:=by
 unfold lamS0B at h
 simp only [wac,wa5,Bool.not_eq_true',decide_eq_true_eq,decide_eq_false_iff_not,wag] at h
 obtain ⟨⟨⟨h1,h2⟩,h3⟩,h5⟩:=h
 refine ⟨h1,h2,h3,fun y hy=>⟨(h5 y hy).1.1,(h5 y hy).1.2⟩,fun y hy e=>?_⟩
 rcases (h5 y hy).2 with (z | z) | z
 ·exact absurd e z
 ·exact .inl z
 ·exact .inr z
theorem LamS0.has {X:Cx} {scope:Scope} (L:LamS0 X.env.scope scope) (ok:X.Ok):∀ y∈scope.names,y.2 = .free→∃ c,X.env.cells.lookup y.1=some c:=fun y hy e=>
 (L.free y hy e).elim (fun k=>ok.has _ (.inl k)) fun k=>ok.has _ (.inr k)
theorem qbk {X:Cx} {scope:Scope} (L:LamS0 X.env.scope scope) (ok:X.Ok) {y:Str} {c:Addr} (e:(clo X scope).lookup y=some c):X.env.cells.lookup y=some c:=by
 rcases cloFrom_mem (PySem.mem_of_lookup e) with hm | ⟨h1,h2⟩
 ·cases hm
 ·obtain ⟨c1,hc⟩:=L.has ok _ h1 rfl
  have hc:X.env.cells.lookup y=some c1:=hc
  rw [hc] at h2 ⊢
  rw [h2]
  rfl
section
variable {X:Cx}
theorem qkX {c P:Addr} {params:Arguments} {body:Expr} {scope:Scope} {pos:Pos} (TB:LamX.TabB X.base X.mg c P) (hcode:X.env.code = .ref c) (hdef:defaultsOf params X.env=([],[])) (L:LamS0 X.env.scope scope) :
  PE X (.Lambda params body scope pos) (tLam P (X.env.qual ++ "<lambda>") (lamObj X params body scope)):=by
 constructor
 rintro pins s σ H Q I ⟨ps,hP,ht,ha,hit,miss⟩
 have cok:=closure_ok (L.has I.ok)
 have tP:s.heap.get? P=some { cls:=.none,data:=.fields ps }:=I.hok P _ hP
 have bP:s.heap.BuiltinsAt X.mg P:=TB.bm.keeps I.bk
 have gN:=I.mod.glob.keeps I.bk
 have kC:=TB.code.keeps I.bk
 apply PySem.W.kla_eval hdef
 rcases hc:codeAmong pos ps.toList with _ | cv
 ·apply PySem.W.kla_makeFunction cok I.ok.glob gN hcode kC tP ht hc TB.gP bP
  intro c' ctv h' tk hx hge hlt hrec htb
  obtain ⟨c2,oc,us,t,e2,hoc,hd,hv⟩:=hrec
  obtain rfl:c' = c2:=Value.ref.inj e2
  have nC:H c' = none:=I.hok.fresh hge
  have I1:=LamX.inv_table (t':=tk) (h':=h') I hP hx htb hge ⟨oc,us,t,hoc,hd,hv⟩
  have I2:=I1.laid (a:=h'.objs.size) (o:=FnO h'.objs.size (lamObj X params body scope ((X.mg "__name__").getD .none) c' ctv)) (t':=tk) (fun b u e=>Heap.get?_push_of_some _ e) (waL _) (qhn rfl)
  exact ⟨.ref h'.objs.size,_,I2,rfl,miss pos _ c' _ ctv nC (I.hok.fresh (wbr hge (Nat.le_of_lt hlt))) (Nat.ne_of_gt hlt)⟩
 ·obtain ⟨c',rfl,hco⟩:=ha pos cv hc
  apply PySem.W.kla_makeFunctionHit cok I.ok.glob gN hcode kC tP ht hc bP
  intro ctv h' tk hx hsz
  have I2:=I.laid (a:=h'.objs.size) (o:=FnO h'.objs.size (lamObj X params body scope ((X.mg "__name__").getD .none) c' ctv)) (t':=tk) (h':=h'.push (lamObj X params body scope ((X.mg "__name__").getD .none) c' ctv)) (fun b u e=>Heap.get?_push_of_some _ (hx b u e)) hsz (qhn rfl)
  exact ⟨.ref h'.objs.size,_,I2,rfl,hit pos _ c' _ ctv hc (I.hok.fresh hsz)⟩
end
section
variable {X:Cx} {pins:List (Addr × Obj)} {σ:L2.St} {H HZ:Hp} {s s1:Shared}
theorem qgg {A:Around} {outer:List Env} {E:XK} {scope:Scope} {f c' : Addr} {h1:Heap} {tk:Nat} {cs:List Nat} {caps:List Str} (I:Inv X pins σ H s) (L:LamS0 X.env.scope scope) (z:Env0 X.prog X.w X.K X.mg X.base A outer s1 HZ) (hd:A.handled=none)
  (un:Un (frs X.stack) [] H HZ s.heap s1.heap) (hns:h1.Ns s1.heap.objs.size fun y=>([]:List (Str × Value)).reverse.lookup y) (kp:∀ b o,s1.heap.get? b=some o→h1.get? b=some o)
  (hcs:∀ (j i:Nat) (y:Str),cs[j]? = some i→caps[j]? = some y→X.N[i]? = some y∧scope.names.lookup y=some .free) (hl:cs.length=caps.length) :
  Inv (lamCx1 X.prog X.w X.K X.mg X.base caps X.env.qual scope (clo X scope) f c' A outer s1 HZ E) [] (capS σ cs) HZ { s1 with heap:=h1,toks:=tk }:=by
 have cellK:∀ {k:Addr} {x:Option Value},H k=none→s.heap.IsCell k x→h1.IsCell k x:=fun {k x} n ⟨o,ho,hq⟩=>by
  obtain ⟨sl,q⟩:=un.any ho n (by simp)
  exact ⟨_,kp _ _ q,hq⟩
 have none_in:∀ b:Addr,b∉(lamCx1 X.prog X.w X.K X.mg X.base caps X.env.qual scope (clo X scope) f c' A outer s1 HZ E).ex:=fun b y=>by
  have y:b∈([]:List Addr):=y
  simp at y
 constructor
 ·constructor
  ·exact z.mod
  ·exact L.kind
  ·rfl
  ·rfl
  ·exact waL _
  ·exact fun y t k e1 e2=>I.ok.inj y t k (qbk L I.ok e1) (qbk L I.ok e2)
  ·intro y hy
   have hy:scope.names.lookup y=some .cell∨scope.names.lookup y=some .free:=hy
   rcases hy with hy | hy
   ·exact absurd rfl (L.own _ (PySem.mem_of_lookup hy)).1
   ·exact qfP hy
  ·intro y k e
   have e:false=true:=e
   cases e
  ·exact fun _=>hd
  ·exact Around.frames_deeper z.frames
  ·exact .inr ⟨rfl,rfl⟩
  ·exact fun b y=>absurd y (none_in b)
  ·exact z.bs
  ·exact z.bsz
  ·exact fun b _ _=>none_in b
  ·exact fun b y=>absurd y (none_in b)
  ·exact z.funs
  ·exact z.frf
 ·rfl
 ·exact z.bare
 ·exact Un.kept kp
 ·refine ⟨_,hns,fun j y x e1 e2 vis=>?_⟩
  have e1:caps[j]? = some y:=e1
  have e2:(capS σ cs)[j]? = some (some x):=e2
  have hj:j < cs.length:=by rw [hl]; exact (waj.mp e1).1
  have e3:cs[j]? = some cs[j]:=wan hj
  obtain ⟨n1,n2⟩:=hcs j _ y e3 e1
  have e4:σ[cs[j]]? = some (some x):=by
   unfold capS at e2
   rw [wal,e3] at e2
   have e2:(σ[cs[j]]?).join=some x:=by simpa using e2
   exact Option.join_eq_some_iff.mp e2
  obtain ⟨m0,_,hlk⟩:=I.loc
  have hv:Vis X.env.scope y:=(L.free _ (PySem.mem_of_lookup n2) rfl).elim (fun k=>.inr (.inl k)) (fun k=>.inr (.inr k))
  obtain ⟨t,r,q⟩:=hlk _ y x n1 e4 hv
  obtain ⟨k2,h2⟩:=qfP (X:=X) n2
  refine ⟨t,r,.inr ⟨.inr n2,k2,h2,?_⟩⟩
  have c1:=qbk L I.ok h2
  rcases q with ⟨k',_⟩ | ⟨_,k3,e',y'⟩
  ·have k' : X.env.scope.names.lookup y=some .local:=k'
   rcases L.free _ (PySem.mem_of_lookup n2) rfl with k | k <;> · rw [show X.env.scope.names.lookup y=_ from k] at k'; cases k'
  ·rw [c1] at e'
   cases e'
   exact cellK (I.freeC y _ c1) y'
 ·intro y k e
  obtain ⟨t,y'⟩:=I.cell y k (qbk L I.ok e)
  exact ⟨t,cellK (I.freeC y k (qbk L I.ok e)) y'⟩
 ·exact z.hok.fresh (waL _)
 ·intro y k e
  obtain ⟨t,o,ho,_⟩:=I.cell y k (qbk L I.ok e)
  exact un.free k o ho (I.freeC y k (qbk L I.ok e)) (by simp)
 ·intro p hp
  have hp:p∈([]:List (Addr × Obj))++[]:=hp
  simp at hp
 ·exact z.hok.kept kp
 ·show _=caps.length
  simp [capS,hl]
end
structure LamAt0 (X:Cx) (pins:List (Addr × Obj)) (σ:L2.St) (s:Shared) (H:Hp) (params:Arguments) (body:Expr) (scope:Scope) (f c' : Addr) (pm ctv:Value) (cs:List Nat) (caps:List Str):Prop where
 inv:Inv X pins σ H s
 sc:LamS0 X.env.scope scope
 hcs:∀ (j i:Nat) (y:Str),cs[j]? = some i→caps[j]? = some y→X.N[i]? = some y∧scope.names.lookup y=some .free
 len:cs.length=caps.length
 bind:bindArgs (PySem.W.kla_fn "<lambda>" (X.env.qual ++ "<lambda>") params body scope (clo X scope) pm (.ref c') ctv) ⟨[],[]⟩=pure []
section
variable {X:Cx} {pins:List (Addr × Obj)} {σ:L2.St} {H:Hp} {s:Shared}
theorem qkY {CXg:CXT} {Eg:XK} {Ng:List Str} {qg:Str} {sg:Scope} {g f c' : Addr} {cdg pm ctv:Value} {params:Arguments} {body:Expr} {scope:Scope} {k i:Nat} {x:Str} {cs:List Nat} {caps:List Str} {tb:XK→TE} {EZ:L2.St→XK} {p1 p2:Pos} (pn:List (Addr × Obj)) (xe:Value→Shared→Prop)
  (A0:LamAt0 X pins σ s H params body scope f c' pm ctv cs caps) (hr:Room (k+1) (X.A.deeper (envOfC qg sg s.heap.objs.size g cdg)))
  (hbody:∀ (A:Around) (outer:List Env) (t:Shared) (H1:Hp) (E:XK),Room k (A.deeper (lamEnv1 X.env.qual scope (clo X scope) t.heap.objs.size f c'))→PE (lamCx1 X.prog X.w X.K X.mg X.base caps X.env.qual scope (clo X scope) f c' A outer t H1 E) body (tb E))
  (hx:∀ σ,PassesAt (L2.CX X.prog X.w) ((cxOf CXg X.prog X.w X.K X.mg X.base Ng qg sg g cdg X.A X.stack s H Eg).tr pn xe) σ (EZ σ))
  (hN:Ng[i]? = some x) (hv:Vis sg x) (hd:(x == ("__debug__" : Str))=false:=by decide) (hcd:(x == ("__classdict__" : Str))=false:=by decide) :
  PE ((cxOf CXg X.prog X.w X.K X.mg X.base Ng qg sg g cdg X.A X.stack s H Eg).tr pn xe) (.Call (.Name x p1) [] [] p2)
   (fun σZ HZ Q=>σZ[i]? = some (some (.ref f))∧HZ f=some (FnO f (lamObj X params body scope pm c' ctv))∧HZ c' = some (LamX.CodeO c' (X.env.qual ++ "<lambda>"))∧tb (EZ σZ) (capS σ cs) HZ Q):=by
 constructor
 rintro pz sZ σZ HZ Q IZ ⟨hs,hf1,hc1,hb⟩
 apply wpAny_Call_Name_kw
 refine thn ((pe_var (pos:=p1) (i:=i) hN hv hd hcd).run pz sZ σZ HZ (fun v H1=>v = .ref f∧H1=HZ) IZ ⟨.ref f,hs,rfl,rfl⟩) ?_
 rintro u0 t1 ⟨v0,H1,I1,r0,e0,eH⟩
 subst e0
 subst eH
 obtain rfl:u0=Value.ref f:=r0
 have of1:=qm2 I1.hok hf1
 refine PySem.W.callWith_F0 ⟨_,_,_,_,of1⟩ ?_
 have un:Un (frs X.stack) [] H H1 s.heap t1.heap:=I1.base
 have rc:codeAny (model X.prog X.w) (X.A.deeper (envOfC qg sg s.heap.objs.size g cdg)) (.call (.ref f) ⟨[],[]⟩) (CR (L2.CX X.prog X.w) (envOfC qg sg s.heap.objs.size g cdg::X.stack) X.prog X.w H1 t1 Q (EZ σZ)) t1:=by
  apply PySem.W.kla_callFunE hr.depth of1 rfl A0.sc.co A0.sc.gen rfl (qiP I1.hok hc1)
  rw [A0.bind]
  apply wpAny_pure
  refine wpAny_newFunctionEnv (fun y hy=>(A0.sc.own y hy).1) (fun y hy=>by simp at hy) (fun h1 hns hsb=>?_) A0.sc.kind
  have kp:∀ b o,t1.heap.get? b=some o→h1.get? b=some o:=fun b o e=>hsb.extBut b o (wbt (Heap.lt_size e)) (Heap.get?_push_of_some _ e)
  have lim:h1.NoLimit:=I1.nolimit.fresh _ hsb
  refine ⟨lim,?_⟩
  have J:=qgg (E:=EZ σZ) (f:=f) (c':=c') (tk:=t1.toks+([]:List (Str × Value)).length) A0.inv A0.sc I1.env0 hr.hd un hns kp A0.hcs A0.len
  apply PySem.W.kla_codeExpr
  refine wpAny_mono ((hbody _ _ t1 H1 (EZ σZ) (hr.deeper _)).run [] _ _ H1 Q J hb) (fun v' t' hq=>?_) fun e' t' hq=>hq
  obtain ⟨w',H',J',rv',q'⟩:=hq
  exact ⟨w',H',J'.os,J'.bare,J'.base,J'.hok,rv',q'⟩
 apply wpAny_call
 refine codeAny_mono rc fun r t' hq=>?_
 cases r with
 | error e'=>exact hx σZ pz H1 t1 e' t' I1 hq
 | ok fl=>
  cases fl with
  | ret u'=>exact I1.after hq
  | next=>exact False.elim hq
  | brk=>exact False.elim hq
  | cont=>exact False.elim hq
end
section
variable (c:Ct) (f:Addr)
def rS1 (b:S):TS:=fun D σ H=>∃ ρ m G μ,μ[0]? = some f∧Sim c G μ ρ m σ H∧PostS c G μ D (b ρ m)
def rE1 (e:E):TE:=fun σ H Q=>∃ ρ m G μ,μ[0]? = some f∧Sim c G μ ρ m σ H∧PostE c G μ ρ σ Q (e ρ m)
end
section
variable {X:Cx} {c:Ct} {f:Addr}
theorem qm4 {st:Stmt} {a:S} (h:PS X st (rS c a)):PS X st (rS1 c f a):=h.imp fun D σ H ⟨ρ,m,G,μ,_,S,q⟩=>⟨ρ,m,G,μ,S,q⟩
theorem PostS.seq1 {G:Hp} {μ:List Addr} {D:Ends} {a b:S} {ρ:Ev} {m:Mem} (hf:μ[0]? = some f) (h:PostS c G μ D (sSeq a b ρ m)):PostS c G μ { D with nx:=rS1 c f b D } (a ρ m):=by
 unfold sSeq at h
 cases e:a ρ m with
 | nx ρ1 m1=>
  rw [e] at h
  exact fun σ H G' μ' S g=>⟨ρ1,m1,G',μ',qdF g.m hf,S,PostS.weak h g⟩
 | bk ρ1 m1=>rw [e] at h; exact h
 | ct ρ1 m1=>rw [e] at h; exact h
 | rt d m1=>rw [e] at h; exact h
 | exc x ρ1 m1=>rw [e] at h; exact h
 | bad=>rw [e] at h; exact h
theorem qho {st:Stmt} {rest:List Stmt} {a b:S} (h1:PS X st (rS1 c f a)) (h2:PSs X rest (rS1 c f b)):PSs X (st::rest) (rS1 c f (sSeq a b)):=by
 refine (pss_cons h1 h2).imp ?_
 rintro D σ H ⟨ρ,m,G,μ,hf,S,h⟩
 exact ⟨ρ,m,G,μ,hf,S,PostS.seq1 hf h⟩
theorem qiR {st:Stmt} {a:S} (h1:PS X st (rS1 c f a)):PSs X [st] (rS1 c f a):=pss_one h1
theorem qiS {e:Expr} {g:E} {pos:Pos} (he:PE X e (rE1 c f g)) (hs:swapsWith e none pos.line X.env=pure false:=by rfl):PS X (.Expr e pos) (rS1 c f (sExpr g)):=by
 refine (ps_expr he hs).imp ?_
 rintro D σ H ⟨ρ,m,G,μ,hf,S,h⟩
 refine ⟨ρ,m,G,μ,hf,S,?_⟩
 unfold sExpr at h
 cases e:g ρ m with
 | ok d m1=>
  rw [e] at h
  exact fun v H1 G1 μ1 S1 R1 g1=>h _ _ _ _ S1 g1
 | exc x m1=>
  rw [e] at h
  exact fun cc dd H1 G1 μ1 S1 g1 x1=>h cc dd _ H1 G1 μ1 S1 g1 x1
 | bad=>rw [e] at h; exact h
end
def lamR (e:E) (ds:List D):R D:=match e (ds.map some) [] with
 | .ok d _=>if noLoc d=true then .ok d [] else .bad
 | .exc e _=>.exc e []
 | .bad=>.bad
def eApp0 (i:Nat) (r:R D):E:=fun ρ m=>match ρ[i]? with
 | some (some (.loc 0))=>(match r with
  | .ok d _=>.ok d m
  | .exc e _=>.exc e m
  | .bad=>.bad)
 | _=>.bad
def eMkL (b:R D→F) (cs:List Nat) (eb:E):E:=fun ρ m=>match getC ρ cs with
 | some ds=>if noLocs ds=true then (match b (lamR eb ds) [.loc 0] [.dead] with
  | .ok d _=>if noLoc d=true∧noX d=true then .ok d m else .bad
  | _=>.bad) else .bad
 | none=>.bad
def LamOk0 (Z:Cx) (c:Ct) (f:Addr) (x:Str) (r:R D):Prop:=∀ (pn:List (Addr × Obj)) (xe:Value→Shared→Prop) (W:WX) (k:Nat) (p1 p2:Pos),Fit (Z.tr pn xe) { c with W:=W } k→PE (Z.tr pn xe) (.Call (.Name x p1) [] [] p2) (rE1 { c with W:=W } f (eApp0 0 r))
section
variable {X:Cx} {pins:List (Addr × Obj)} {σX:L2.St} {H:Hp} {s:Shared}
theorem qkZ {c:Ct} {Eg:XK} {Ng:List Str} {qg:Str} {sg:Scope} {g f c' : Addr} {cdg pm ctv:Value} {params:Arguments} {body:Expr} {scope:Scope} {k:Nat} {x:Str} {cs:List Nat} {caps:List Str} {eb:E} {ds:List D}
  (A0:LamAt0 X pins σX s H params body scope f c' pm ctv cs caps) (hr:Room (k+1) (X.A.deeper (envOfC qg sg s.heap.objs.size g cdg)))
  (hK:c.K=X.K) (hmg:c.mg=X.mg) (hw:c.w=X.w) (hxo:c.xo=none)
  (hf:c.G0 f=some (FnO f (lamObj X params body scope pm c' ctv))) (hc:c.G0 c' = some (LamX.CodeO c' (X.env.qual ++ "<lambda>")))
  (hds:∀ (j:Nat) (d:D),ds[j]? = some d→∃ v,(capS σX cs)[j]? = some (some v)∧Rep X.K X.mg none c.G0 [] d v) (hlen:ds.length=cs.length)
  (hbody:∀ (c2:Ct),c2.xo=none→∀ (A:Around) (outer:List Env) (t:Shared) (H1:Hp) (E:XK),Fit (lamCx1 X.prog X.w X.K X.mg X.base caps X.env.qual scope (clo X scope) f c' A outer t H1 E) c2 k→PE (lamCx1 X.prog X.w X.K X.mg X.base caps X.env.qual scope (clo X scope) f c' A outer t H1 E) body (rE c2 eb))
  (hnd:caps.Nodup) (hN:Ng[0]? = some x) (hv:Vis sg x) (hd:(x == ("__debug__" : Str))=false) (hcd:(x == ("__classdict__" : Str))=false) :
  LamOk0 (cxOf (L2.CX X.prog X.w) X.prog X.w X.K X.mg X.base Ng qg sg g cdg X.A X.stack s H Eg) c f x (lamR eb ds):=by
 intro pn xe W k' p1 p2 F
 have hb2:∀ (A:Around) (outer:List Env) (t:Shared) (H1:Hp) (E:XK),Room k (A.deeper (lamEnv1 X.env.qual scope (clo X scope) t.heap.objs.size f c'))→PE (lamCx1 X.prog X.w X.K X.mg X.base caps X.env.qual scope (clo X scope) f c' A outer t H1 E) body
   (fun σ' H' Q'=>∃ c2:Ct,(c2.K=X.K∧c2.mg=X.mg∧c2.w=X.w∧c2.xo=none∧c2.W=fun cc d _ H=>E cc d H)∧rE c2 eb σ' H' Q'):=fun A outer t H1 E rm=>by
  constructor
  rintro pz sz σz Hz Qz Iz ⟨c2,⟨e1,e2,e3,e4,e5⟩,q⟩
  refine (hbody c2 e4 A outer t H1 E ⟨e1,e2,e3,rfl,?_,passes_of rfl,rm,hnd⟩).run pz sz σz Hz Qz Iz q
  rw [e5]
  exact takes_of rfl rfl rfl rfl
 refine (qkY (i:=0) (EZ:=fun σ=>WE W σ) pn xe A0 hr hb2 (fun σ=>passAt F.tk σ) hN hv hd hcd).imp ?_
 rintro σ HZ Q ⟨ρ,m,G,μ,hf0,S,h⟩
 unfold eApp0 at h
 split at h
 ·rename_i hρ
  obtain ⟨v,hσ,r⟩:=S.env 0 _ hρ
  cases r with
  | loc hμ=>
   rename_i adr
   obtain rfl:adr=f:=by
    rw [hf0] at hμ
    exact (Option.some.inj hμ).symm
   refine ⟨hσ,S.mem.gh _ _ (S.mem.g0 _ _ hf),S.mem.gh _ _ (S.mem.g0 _ _ hc),⟨c.K,c.mg,c.w,none,hid HZ,G,fun cc d _ H=>WE W σ cc d H⟩,⟨hK,hmg,hw,rfl,rfl⟩,ds.map some,[],G,[],⟨S.mem.enter,fun j d' e'=>?_,by simp [hlen]⟩,?_⟩
   ·have e' : ds[j]? = some d':=by
     rw [wal] at e'
     cases q:ds[j]? with
     | none=>rw [q] at e'; simp at e'
     | some z=>rw [q] at e'; simpa using e'
    obtain ⟨v',hv',r'⟩:=hds j d' e'
    refine ⟨v',hv',?_⟩
    have r' : Rep c.K c.mg none c.G0 [] d' v':=by rw [hK,hmg]; exact r'
    exact Rep.mono S.mem.g0 (wai _) (.inl rfl) r'
   ·unfold lamR at h
    cases eq:eb (ds.map some) [] with
    | bad=>rw [eq] at h; exact h.elim
    | exc x' m'=>
     rw [eq] at h
     intro cc dd H' G' μ' S' g' x1
     obtain ⟨S2,g2⟩:=S.after (B':=HZ) S'.mem
     exact h cc dd H' G' μ S2 g2 x1
    | ok d' m'=>
     rw [eq] at h
     simp only at h
     by_cases hn:noLoc d' = true
     ·rw [if_pos hn] at h
      intro v' H' G' μ' S' r' g'
      obtain ⟨S2,g2⟩:=S.after (B':=HZ) S'.mem
      refine h v' H' G' μ S2 ?_ g2
      have r2:=Rep.mono (Same.refl _) (wai _) (.inl rfl) (r'.off hn) (xo':=none) (μ':=μ)
      rw [show ({ c with W:=W }:Ct).xo=none from hxo]
      exact r2
     ·rw [if_neg hn] at h
      exact h.elim
 ·exact h.elim
end
def MkLOk (P:Program) (w:World) (K:PySem.W.Frag) (mg:Str→Option Value) (base:Heap) (x:Str) (b:R D→F):Prop:=
 ∃ (f:Addr) (pg:Arguments) (bg:List Stmt) (sg:Scope) (dV kV doc pm cdv ct oc:Value) (an od:Option Addr) (osl:Array (Option Value)) (Ng:List Str) (a0:Str) (bS:R D→S),
  (mg x=some (.ref f)∧PySem.W.keepIn K (.ref f)=true∧K.lookup f=some ⟨oc,od,.func (PySem.W.fnOf x x pg bg sg dV kV doc pm an cdv ct),osl⟩∧PySem.W.codeIn K cdv x=true∧Binds K (PySem.W.fnOf x x pg bg sg dV kV doc pm an cdv ct) [a0] []) ∧
  (FnScope Ng [a0] sg∧Ng[0]? = some a0∧Vis sg a0∧(a0 == ("__debug__" : Str))=false∧(a0 == ("__classdict__" : Str))=false) ∧
  b=(fun r=>runDef Ng.length (bS r)) ∧
  ∀ (c:Ct) (f0:Addr) (r:R D) (A:Around) (outer:List Env) (s:Shared) (H:Hp),c.xo=none→Fit (cxOf (L2.CX P w) P w K mg base Ng x sg f cdv A outer s H noE) c 0 →
   LamOk0 (cxOf (L2.CX P w) P w K mg base Ng x sg f cdv A outer s H noE) c f0 a0 r →
   PSs (cxOf (L2.CX P w) P w K mg base Ng x sg f cdv A outer s H noE) bg (rS1 c f0 (bS r))
theorem qm5 {P:Program} {w:World} {K:PySem.W.Frag} {mg:Str→Option Value} {base:Heap} {x:Str} {st:Stmt} {f:Addr} {fd:FuncData} {Ng:List Str} {a0:Str} {bS:R D→S}
  (Fn:Fun K x x st f fd) (hm:mg x=some (.ref f)) (hb:Binds K fd [a0] []) (Sc:FnScope Ng [a0] (defScope st)) (n1:Ng[0]? = some a0) (v1:Vis (defScope st) a0)
  (d1:(a0 == ("__debug__" : Str))=false) (d2:(a0 == ("__classdict__" : Str))=false)
  (hbody:∀ (c:Ct) (f0:Addr) (r:R D) (cdv:Value) (A:Around) (outer:List Env) (s:Shared) (H:Hp),c.xo=none→Fit (cxOf (L2.CX P w) P w K mg base Ng x (defScope st) f cdv A outer s H noE) c 0 →
   LamOk0 (cxOf (L2.CX P w) P w K mg base Ng x (defScope st) f cdv A outer s H noE) c f0 a0 r →
   PSs (cxOf (L2.CX P w) P w K mg base Ng x (defScope st) f cdv A outer s H noE) (defBody st) (rS1 c f0 (bS r))):MkLOk P w K mg base x fun r=>runDef Ng.length (bS r):=by
 obtain ⟨⟨oc,od,kV,doc,pm,an,cdv,ct,osl,rfl,lk,hcd⟩,kp⟩:=Fn
 exact ⟨f,_,_,_,_,kV,doc,pm,cdv,ct,oc,an,od,osl,Ng,a0,bS,⟨hm,kp,lk,hcd,hb⟩,⟨Sc,n1,v1,d1,d2⟩,rfl,fun c f0 r A outer s H hx F l1=>hbody c f0 r cdv A outer s H hx F l1⟩
section
variable {X:Cx} {c:Ct}
structure LamHere0 (X:Cx) (params:Arguments) (body:Expr) (scope:Scope) (cs:List Nat) (caps:List Str) (eb:E) (k:Nat):Prop where
 sc:LamS0 X.env.scope scope
 hcs:∀ (j i:Nat) (y:Str),cs[j]? = some i→caps[j]? = some y→X.N[i]? = some y∧scope.names.lookup y=some .free
 len:cs.length=caps.length
 nd:caps.Nodup
 dflt:∀ env:Env,defaultsOf params env=([],[])
 bind:∀ (q:Str) (cl:List (Str × Addr)) (pm cv ctv:Value),bindArgs (PySem.W.kla_fn "<lambda>" q params body scope cl pm cv ctv) ⟨[],[]⟩=pure []
 run:∀ (c2:Ct),c2.xo=none→∀ (cl:List (Str × Addr)) (f c' : Addr) (A:Around) (outer:List Env) (t:Shared) (H1:Hp) (E:XK),Fit (lamCx1 X.prog X.w X.K X.mg X.base caps X.env.qual scope cl f c' A outer t H1 E) c2 k →
  PE (lamCx1 X.prog X.w X.K X.mg X.base caps X.env.qual scope cl f c' A outer t H1 E) body (rE c2 eb)
theorem qjz {k j1:Nat} {x:Str} {b:R D→F} {p q1 pos:Pos} {cc P:Addr} {pr1:Arguments} {b1:Expr} {s1:Scope} {cs1:List Nat} {caps1:List Str} {eb1:E}
  (F:Fit X c k) (hxo:c.xo=none) (W:MkLOk X.prog X.w X.K X.mg X.base x b) (hg:Gl X x)
  (TB:LamX.TabB X.base X.mg cc P) (hcode:X.env.code = .ref cc) (hmT:(P,X.env.qual ++ "<lambda>")∈TabI.T) (hu:∀ p∈TabI.T,p.1=P→p.2=X.env.qual ++ "<lambda>")
  (J1:LamHere0 X pr1 b1 s1 cs1 caps1 eb1 j1) (hj1:j1+2≤k) (hdb:(x == ("__debug__" : Str))=false:=by decide)
  (he1:starEach [.Lambda pr1 b1 s1 q1] X.env=(false,eval (.Lambda pr1 b1 s1 q1) X.env)::starEach [] X.env:=by rfl)
  (hpl:(backTo pos (starEach [] X.env)).any (·.1)=false:=by rfl) :
  PE X (.Call (.Name x p) [.Lambda pr1 b1 s1 q1] [] pos) (rE c (eMkL b cs1 eb1)):=by
 obtain ⟨g,pg,bg,sg,dV,kV,doc,pm,cdv,ct,oc,an,od,osl,Ng,x0,bS,⟨hm,hk,lk,hcd,hb⟩,⟨Sc,n1,v1,d1,d2⟩,rfl,run⟩:=W
 constructor
 rintro pins s σ H Q I ⟨ρ,m,G,μ,S,h⟩
 apply wpAny_Call_Name_kw
 refine ld_glob I hg hm ?_ hdb
 let QA:List V→Hp→Prop:=fun vs H'=>∃ (f1 c1:Addr) (pm1 ct1:Value) (G3:Hp),vs=[.ref f1]∧Sim c G3 μ ρ m σ H'∧Same G G3∧More G H G3 H'∧H f1=none ∧
  G3 f1=some (FnO f1 (lamObj X pr1 b1 s1 pm1 c1 ct1))∧G3 c1=some (LamX.CodeO c1 (X.env.qual ++ "<lambda>"))
 have hA:tCons (tLam P (X.env.qual ++ "<lambda>") (lamObj X pr1 b1 s1)) tNil σ H QA:=
  S.lam hmT hu fun f1 c1 pm1 ct1 H2 G2 S2 g2 hf1 e1 e2 mo1=>⟨f1,c1,pm1,ct1,G2,rfl,S2,g2.g,mo1,hf1,e1,e2⟩
 refine PySem.W.callWith_K (h₀:=X.base) I.ok.mod.kin hk (thn ((pa_cons (qkX TB hcode (J1.dflt _) J1.sc) pa_nil he1).run pos pins s σ H QA I hA) ?_) he1 hpl
 rintro us t ⟨vs,H3,I3,rv,f1,c1,pm1,ct1,G3,rfl,S3,sG,mo,z1,hf1,hc1⟩
 refine ⟨I3.kIn,?_⟩
 have h1:PostE c G μ ρ σ Q (eMkL (fun r=>runDef Ng.length (bS r)) cs1 eb1 ρ m):=h
 unfold eMkL at h1
 cases w1:getC ρ cs1 with
 | none=>rw [w1] at h1; exact h1.elim
 | some ds1=>
 rw [w1] at h1
 simp only at h1
 by_cases hn:noLocs ds1=true
 case neg=>rw [if_neg hn] at h1; exact h1.elim
 case pos=>
 rw [if_pos hn] at h1
 let c' : Ct:=⟨c.K,c.mg,c.w,none,hid H,G3,fun _ _ _ _=>False⟩
 have ext1:H3 f1=some (FnO f1 (lamObj X pr1 b1 s1 pm1 c1 ct1)):=S3.mem.gh _ _ hf1
 have M0:MemOk c' G3 [f1] [.dead] H3:=by
  refine ⟨S3.mem.gh,fun b o e=>mo.kept b o (qcH e).1 (qcH e).2,Same.refl _,fun a o _ q=>q,rfl,by simp,fun n a ce e1 e2=>?_,fun a ha=>?_,fun a ha=>?_,fun q hq=>?_⟩
  ·match n with
   | 0=>
    obtain rfl:Cell.dead=ce:=by simpa using e2
    trivial
   | n+1=>simp at e1
  ·obtain rfl:a=f1:=by simpa using ha
   rw [ext1]; simp
  ·obtain rfl:a=f1:=by simpa using ha
   exact qcI z1
  ·have T:=S3.mem.tb q hq
   refine T.up (Same.refl _) T.g (if_pos ⟨q,hq,rfl⟩) (fun z=>?_) rfl
   exact T.ne ext1 (fun _ z=>by unfold FnO at z; cases z) (by simpa using z)
 obtain ⟨len1,get1⟩:=qfQ S3.env w1
 have RA:RepL c'.K c'.mg c'.xo G3 [f1] [.loc 0] [.ref f1]:=.cons (.loc rfl) .nil
 obtain ⟨env1,len3⟩:=qeu (N:=Ng) RA
 have rm:Room (j1+2) X.A:=F.rm.mono (by omega)
 have rc:codeAny (model X.prog X.w) X.A (.call (.ref g) ⟨us,[]⟩) (CR (L2.CX X.prog X.w) X.stack X.prog X.w H3 t Q noE) t:=by
  have rl:=rv.length
  refine LamX.run_ofS (N:=Ng) (ps:=[x0]) (us:=us) (vs:=[.ref f1]) lk hcd Sc rm I3.env0 (by
   have z:=hb t us I3.kIn (by rw [wa0,← rl]; rfl)
   rw [wa0] at z
   exact z) rv rfl fun hr'=>?_
  have Fz:Fit (cxOf (L2.CX X.prog X.w) X.prog X.w X.K X.mg X.base Ng x sg g cdv X.A X.stack t H3 noE) c' 0:=⟨F.K,F.mg,F.w,rfl,takes_of rfl rfl rfl rfl,passes_of rfl,hr'.mono (by omega),Sc.nd⟩
  have la1:=qkZ (c:=c') (Eg:=noE) (Ng:=Ng) (qg:=x) (sg:=sg) (g:=g) (cdg:=cdv) (eb:=eb1) (ds:=ds1) (cs:=cs1) (caps:=caps1) (k:=j1) (x:=x0) ⟨I3,J1.sc,J1.hcs,J1.len,J1.bind _ _ _ _ _⟩ (hr'.mono (by omega)) F.K F.mg F.w rfl hf1 hc1 (fun j d e=>by
   obtain ⟨v,q1,q2⟩:=get1 j d e
   refine ⟨v,q1,?_⟩
   rw [← F.K,← F.mg]
   exact Rep.off (qgf hn e) (hxo ▸ q2)) len1 (fun c2 x2 A outer t H1 E Ft=>J1.run c2 x2 _ _ _ A outer t H1 E Ft) J1.nd n1 v1 d1 d2
  refine ⟨_,run c' f1 _ _ _ _ _ rfl Fz la1,_,_,G3,[f1],rfl,⟨M0,env1,len3⟩,?_⟩
  have fin:∀ {d:D} {m' : Mem} {v:V} {H' G' : Hp} {μ' : List Addr},MemOk c' G' μ' m' H'→Rep c'.K c'.mg c'.xo G' μ' d v→PostE c G μ ρ σ Q (if noLoc d=true∧noX d=true then .ok d m else .bad)→Q v H':=fun {d m' v H' G' μ'} M' r' hq=>by
   split at hq
   ·rename_i hn
    have My:MemOk ⟨c.K,c.mg,c.w,none,hid H,G,fun _ _ _ _=>False⟩ G' μ' m' H':=⟨M'.gh,M'.bh,sG.trans M'.g0,fun a o e1 e2=>M'.gb a o e1 (mo.gone a o (qcH e1).1 e2),M'.ml,M'.nd,fun n a ce e1 e2=>CellOk.reB (c:=c') rfl rfl rfl rfl (fun _ z _=>z) (M'.cell n a ce e1 e2),M'.used,M'.mb,M'.tb⟩
    obtain ⟨S4,g4⟩:=S.after (B':=H) My
    exact hq v H' G' μ S4 ((r'.off hn.1).noX hn.2) g4
   ·exact hq.elim
  have h1:PostE c G μ ρ σ Q (match (bS (lamR eb1 ds1) ([D.loc 0].map some++List.replicate (Ng.length - [D.loc 0].length) none) [.dead]).end with
   | .ok d _=>if noLoc d=true∧noX d=true then .ok d m else .bad
   | _=>.bad):=h1
  cases eb:bS (lamR eb1 ds1) ([D.loc 0].map some++List.replicate (Ng.length - [D.loc 0].length) none) [.dead] with
  | nx ρ3 m3=>
   rw [eb] at h1
   exact fun σ3 H4 G4 μ4 S4 g4=>fin (d:=.non) S4.mem .non h1
  | rt d3 m3=>
   rw [eb] at h1
   exact fun v H4 G4 μ4 M4 g4 r4=>fin M4 r4 h1
  | exc x3 ρ3 m3=>rw [eb] at h1; exact h1.elim
  | bk ρ3 m3=>rw [eb] at h1; exact h1.elim
  | ct ρ3 m3=>rw [eb] at h1; exact h1.elim
  | bad=>rw [eb] at h1; exact h1.elim
 apply wpAny_call
 refine codeAny_mono rc fun r t' hq=>?_
 cases r with
 | error e'=>
  obtain ⟨_,_,_,_,_,_,_,_,_,_,_,_,no⟩:=hq
  exact no.elim
 | ok fl=>
  cases fl with
  | ret u'=>exact I3.after hq
  | next=>exact False.elim hq
  | brk=>exact False.elim hq
  | cont=>exact False.elim hq
end
end TT

set_option maxHeartbeats 2000000
namespace TT
open PySem PySem.Spec PyProof.Rows L2
variable [TabI]
section
variable {X:Cx} {c:Ct} {G:Hp} {μ:List Addr} {ρ:Ev} {m:Mem} {σ:L2.St} {H:Hp}
theorem qhp {f:Addr} {k i:Nat} {d n:Str} {Dd:Addr} {t:XTab} {body suite rest:List Stmt} {b₀:Stmt} {np pos pos' : Pos} {b su re:S} (F:Fit X c k) (hxo:c.xo=none) (T:XTok X.K X.mg t) (gd:X.mg d=some (.ref Dd)) (hg:Gl X d) (hs:X.stack=X.env::X.outer) (hf:X.env.frame=some X.env.locals)
  (hi:X.N[i]? = some n) (hln:X.env.kindOf n=some .local)
  (hb:∀ (pn:List (Addr × Obj)) (xe:Value→Shared→Prop) (W:WX),Fit (X.tr pn xe) { c with W:=W } k→PSs (X.tr pn xe) body (rS1 { c with W:=W } f b))
  (hsu:∀ (pn:List (Addr × Obj)) (a:Addr) (oe:Obj) (C:Addr) (dd:Option Addr) (c:Ct),Caught X c a oe pn C dd→Fit0 (X.suite a ((a,oe)::pn)) c k→PSs (X.suite a ((a,oe)::pn)) (b₀::suite) (rS c su))
  (hr:∀ (pn:List (Addr × Obj)) (c:Ct),KeptY (X.kp pn) c→Fit (X.kp pn) c k→PSs (X.kp pn) rest (rS c re)) (hdb:(d == ("__debug__" : Str))=false:=by decide) :
  PSs X (.Try body [.ExceptHandler (some (.Name d np)) (some n) (b₀::suite) pos'] [] [] pos::rest) (rS1 c f (sTryK t d i b su re)):=by
 refine PSs.imp (pss_tryK (tb:=fun W=>rS1 { c with W:=W } f b) (u:=rS c re) (tsu:=tsX c su) (tr:=tsX c re) hs hf F.nd hi hln ⟨hg,hdb,.inl gd⟩ F.tk (fun W pn xe tk po=>?_) (fun a oe cls dd pn hz hff=>?_) (hr X.pn c (.inl hxo) F) (fun a oe cls dd pn hz hff=>?_)) ?_
 ·exact hb pn xe W ⟨F.K,F.mg,F.w,F.calm,tk,po,F.rm,F.nd⟩
 ·refine ⟨fun pins s σ H D I q=>?_⟩
  obtain ⟨⟨C,rfl,ec⟩,q⟩:=q
  exact (hsu pn a oe C dd (c.sx (some (a,.ref C,dd)) fun _ _ _ _=>False) ⟨hz,hff,by rw [← F.K]; exact ec,rfl⟩ ⟨F.K,F.mg,F.nd⟩).run pins s σ H D I q
 ·refine ⟨fun pins s σ H D I q=>?_⟩
  obtain ⟨⟨C,rfl,ec⟩,q⟩:=q
  exact (hr ((a,oe)::pn) (c.sx (some (a,.ref C,dd)) fun _ _ _ _=>False) (.inr ⟨a,oe,C,dd,hz,hff,by show ExcC X.K C; rw [← F.K]; exact ec,rfl,waw⟩) (F.kp _)).run pins s σ H D I q
 ·rintro D σ H ⟨ρ,m,G,μ,hf0,S,h⟩
  refine ⟨ρ,m,G,μ,hf0,S.toW,h.tryK hxo (fun cn fs ρ1 m1 cc dd σ H G' μ' el h1 S1 x1=>?_) (fun cn fs ρ1 m1 cc dd σ H G' μ' el h1 S1 x1=>?_)⟩
  ·obtain ⟨⟨C,v,P⟩,C',Y⟩:=T _ (qbd el)
   obtain ⟨C2,h2,h3,_⟩:=id x1
   rw [F.mg] at h2
   have e1:C=C2:=Value.ref.inj (Option.some.inj (P.g.symm.trans h2))
   subst e1
   have e2:C' = C:=Value.ref.inj (Option.some.inj (Y.g.symm.trans h2))
   subst e2
   have hv:v = .ref Dd:=by
    rcases P.n with ⟨q,_⟩ | ⟨_,q,_⟩
    ·exact Option.some.inj (q.symm.trans gd)
    ·rw [show X.mg d=some _ from gd] at q; cases q
   subst hv
   subst h3
   refine ⟨true,P.exm,fun _ a ha=>?_,fun q=>by cases q⟩
   refine ⟨⟨_,rfl,by rw [F.K]; exact Y.e⟩,_,m1,G',μ',?_,PostS.keep (tr:=tsX c re a (.ref C') dd) (fun σ H q=>⟨⟨_,rfl,by rw [F.K]; exact Y.e⟩,q⟩) h1⟩
   exact (S1.sx (x:=some (a,.ref C',dd)) (W:=fun _ _ _ _=>False) hxo).put (.exc rfl x1)
  ·obtain ⟨⟨C,v,P⟩,_⟩:=T _ (qbd el)
   obtain ⟨C2,h2,h3,_⟩:=id x1
   rw [F.mg] at h2
   have e1:C=C2:=Value.ref.inj (Option.some.inj (P.g.symm.trans h2))
   subst e1
   have hv:v = .ref Dd:=by
    rcases P.n with ⟨q,_⟩ | ⟨_,q,_⟩
    ·exact Option.some.inj (q.symm.trans gd)
    ·rw [show X.mg d=some _ from gd] at q; cases q
   subst hv
   subst h3
   exact ⟨false,P.exm,(fun q=>by cases q),fun _=>h1 _ _ _ _ _ _ S1 Gr.refl x1⟩
end
end TT

namespace TT
open PySem
def xtab_k82:XTab:=[((("NoKinds" : Str),("CutError" : Str)),true),((("NoKinds" : Str),("NoRule" : Str)),false),((("NoKinds" : Str),("TooMany" : Str)),false),((("NoKinds" : Str),("Unlike" : Str)),false),((("NoKinds" : Str),("NoBook" : Str)),false),((("NoKinds" : Str),("NoKinds" : Str)),true),((("NoKinds" : Str),("ValueError" : Str)),true),((("NoBook" : Str),("CutError" : Str)),true),((("NoBook" : Str),("NoRule" : Str)),false),((("NoBook" : Str),("TooMany" : Str)),false),((("NoBook" : Str),("Unlike" : Str)),false),((("NoBook" : Str),("NoBook" : Str)),true),((("NoBook" : Str),("NoKinds" : Str)),false),((("NoBook" : Str),("ValueError" : Str)),true),((("Unlike" : Str),("CutError" : Str)),true),((("Unlike" : Str),("NoRule" : Str)),false),((("Unlike" : Str),("TooMany" : Str)),false),((("Unlike" : Str),("Unlike" : Str)),true),((("Unlike" : Str),("NoBook" : Str)),false),((("Unlike" : Str),("NoKinds" : Str)),false),((("Unlike" : Str),("ValueError" : Str)),true)]
def zc1:S:=
 (sRet (eAnd (eFun dIsInst (lCons (eVar 0) (lCons (eC (.ty "int")) lNil))) (eNot (eFun dIsInst (lCons (eVar 0) (lCons (eC (.ty "bool")) lNil))))))
def zaY:F:=runDef 1 zc1
def zdk:S:=
 (sRet (eFun dIsInst (lCons (eVar 0) (lCons (eC (.ty "str")) lNil))))
def zaG:F:=runDef 1 zdk
def zaV:E:=
 (eCmp dIn (eVar 1) (eC (.str "abcdefghijklmnopqrstuvwxyz")))
def zbW:S:=
 (sSeq (sIf (tOr (tNot (tVal (eCall false 1 zaG (lCons (eVar 0) lNil)))) (tOr (tNot (tChain dLe dLe (eC (.int 1)) (eFun dLen (lCons (eVar 0) lNil)) (eC (.int 8)))) (tCmp dIn (eVar 0) (eTup (lCons (eC (.str "rest")) (lCons (eC (.str "edge")) lNil))))))
 (sRet (eC (.bl false)))
 sNext)
 (sRet (eFun dAll (lCons (eComp false (iSeq (eVar 0)) (gName 1) tYes zaV [1]) lNil))))
def zaH:F:=runDef 2 zbW
def zbD:E:=
 (eCmp dIn (eVar 1) (eC (.str " !\"#$&'()*+,-./0123456789:;<=>?@ABCDEFGHIJKLMNOPQRSTUVWXYZ[\\]^_`abcdefghijklmnopqrstuvwxyz{|}~")))
def zcX:S:=
 (sSeq (sIf (tOr (tNot (tVal (eCall false 1 zaG (lCons (eVar 0) lNil)))) (tCmp dEq (eVar 0) (eC (.str ""))))
 (sRet (eC (.bl false)))
 sNext)
 (sSeq (sIf (tNot (tVal (eFun dAll (lCons (eComp false (iSeq (eVar 0)) (gName 1) tYes zbD [1]) lNil))))
 (sRet (eC (.bl false)))
 sNext)
 (sRet (eCmp dEq (eVar 0) (eMeth "str" mJoin (eC (.str "")) (lCons (eSortSet false (eVar 0)) lNil))))))
def zbf:F:=runDef 2 zcX
def zab:S:=
 (sW (sSeq (sIf (tOr (tNot (tVal (eFun dIsInst (lCons (eVar 3) (lCons (eC (.ty "tuple")) lNil))))) (tCmp dNe (eFun dLen (lCons (eVar 3) lNil)) (eC (.int 2))))
 (sRaise "NoKinds")
 sNext)
 (sSeq (sIf (tOr (tNot (tVal (eCall false 1 zaH (lCons (eOp dIx (eVar 3) (eC (.int 0))) lNil)))) (tOr (tCmp dIn (eOp dIx (eVar 3) (eC (.int 0))) (eVar 1)) (tNot (tVal (eCall false 1 zbf (lCons (eOp dIx (eVar 3) (eC (.int 1))) lNil))))))
 (sRaise "NoKinds")
 sNext)
 (sSeq (sExpr (eAppend (eVar 1) (eOp dIx (eVar 3) (eC (.int 0)))))
 (sSet 2 (eOp dAdd (eVar 2) (eOp dIx (eVar 3) (eC (.int 1)))))))) [3])
def zbN:S:=
 (sSeq (sIf (tOr (tNot (tVal (eFun dIsInst (lCons (eVar 0) (lCons (eC (.ty "list")) lNil))))) (tCmp dGt (eFun dLen (lCons (eVar 0) lNil)) (eC (.int 6))))
 (sRaise "NoKinds")
 sNext)
 (sSeq (sSet 1 (eLst true lNil))
 (sSeq (sSet 2 (eC (.str "")))
 (sSeq (sThenF (sFor (iSeq (eVar 0)) (gName 3)
 zab) 1)
 (sIf (tOr (tCmp dNe (eUn dLenSet (eVar 2)) (eFun dLen (lCons (eVar 2) lNil))) (tCmp dGt (eFun dLen (lCons (eVar 2) lNil)) (eC (.int 60))))
 (sRaise "NoKinds")
 sNext)))))
def zaf:F:=runDef 4 zbN
def zcG:E:=
 (eVar 1)
def zda:S:=
 (sRet (eOp dAdd (eComp false (iSeq (eVar 0)) (gTup 2 (gsCons (gName 1) (gsCons (gName 2) gsNil))) tYes zcG [1,2]) (eLst false (lCons (eC (.str "rest")) lNil))))
def zbH:F:=runDef 3 zda
def zaD:S:=
 (sW (sSeq (sIf (tOr (tNot (tVal (eFun dIsInst (lCons (eVar 3) (lCons (eC (.ty "str")) lNil))))) (tCmp dNotIn (eVar 3) (eVar 0)))
 (sRet (eC (.bl false)))
 sNext)
 (sExpr (eAppend (eVar 2) (eMeth "list" mIndex (eVar 0) (lCons (eVar 3) lNil))))) [3])
def zcf:E:=
 (eCmp dLt (eOp dIx (eVar 2) (eVar 4)) (eOp dIx (eVar 2) (eOp dAdd (eVar 4) (eC (.int 1)))))
def zcW:S:=
 (sSeq (sIf (tOr (tNot (tVal (eFun dIsInst (lCons (eVar 1) (lCons (eC (.ty "tuple")) lNil))))) (tCmp dEq (eFun dLen (lCons (eVar 1) lNil)) (eC (.int 0))))
 (sRet (eC (.bl false)))
 sNext)
 (sSeq (sSet 2 (eLst true lNil))
 (sSeq (sThenF (sFor (iSeq (eVar 1)) (gName 3)
 zaD) 2)
 (sRet (eFun dAll (lCons (eComp false (iRange (eOp dSub (eFun dLen (lCons (eVar 2) lNil)) (eC (.int 1)))) (gName 4) tYes zcf [4]) lNil))))))
def zbJ:F:=runDef 5 zcW
def zcU:S:=
 (sSeq (sIf (tOr (tNot (tVal (eCall false 1 zaY (lCons (eVar 0) lNil)))) (tNot (tChain dLe dLe (eC (.int 0)) (eVar 0) (eC (.int 6)))))
 (sRet (eC (.bl false)))
 sNext)
 (sRet (eOr (eCmp dIs (eVar 1) (eC .non)) (eAnd (eCall false 1 zaY (lCons (eVar 1) lNil)) (eChain dLe dLe (eFun dMax (lCons (eC (.int 1)) (lCons (eVar 0) lNil))) (eVar 1) (eC (.int 6)))))))
def zbd:F:=runDef 2 zcU
def zce:E:=
 (eCall false 2 zbJ (lCons (eVar 0) (lCons (eVar 2) lNil)))
def zdr:S:=
 (sSeq (sIf (tOr (tNot (tVal (eFun dIsInst (lCons (eVar 1) (lCons (eC (.ty "tuple")) lNil))))) (tOr (tCmp dNe (eFun dLen (lCons (eVar 1) lNil)) (eC (.int 3))) (tNot (tVal (eCall false 2 zbd (lCons (eOp dIx (eVar 1) (eC (.int 1))) (lCons (eOp dIx (eVar 1) (eC (.int 2))) lNil)))))))
 (sRet (eC (.bl false)))
 sNext)
 (sSeq (sIf (tOr (tNot (tVal (eFun dIsInst (lCons (eOp dIx (eVar 1) (eC (.int 0))) (lCons (eC (.ty "tuple")) lNil))))) (tNot (tChain dLe dLe (eC (.int 1)) (eFun dLen (lCons (eOp dIx (eVar 1) (eC (.int 0))) lNil)) (eC (.int 3)))))
 (sRet (eC (.bl false)))
 sNext)
 (sRet (eFun dAll (lCons (eComp false (iSeq (eOp dIx (eVar 1) (eC (.int 0)))) (gName 2) tYes zce [2]) lNil)))))
def zct:F:=runDef 3 zdr
def zbm:E:=
 (eCall false 2 zct (lCons (eVar 2) (lCons (eVar 3) lNil)))
def zcu:S:=
 (sSeq (sIf (tOr (tNot (tVal (eFun dIsInst (lCons (eVar 1) (lCons (eC (.ty "tuple")) lNil))))) (tOr (tCmp dNe (eFun dLen (lCons (eVar 1) lNil)) (eC (.int 2))) (tNot (tVal (eFun dIsInst (lCons (eOp dIx (eVar 1) (eC (.int 0))) (lCons (eC (.ty "bool")) lNil)))))))
 (sRet (eC (.bl false)))
 sNext)
 (sSeq (sIf (tOr (tNot (tVal (eFun dIsInst (lCons (eOp dIx (eVar 1) (eC (.int 1))) (lCons (eC (.ty "tuple")) lNil))))) (tCmp dGt (eFun dLen (lCons (eOp dIx (eVar 1) (eC (.int 1))) lNil)) (eC (.int 5))))
 (sRet (eC (.bl false)))
 sNext)
 (sSeq (sSet 2 (eCall false 1 zbH (lCons (eVar 0) lNil)))
 (sRet (eFun dAll (lCons (eComp false (iSeq (eOp dIx (eVar 1) (eC (.int 1)))) (gName 3) tYes zbm [3]) lNil))))))
def zaB:F:=runDef 4 zcu
def zch:S:=
 (sSeq (sAsg (eVar 0) (gTup 3 (gsCons (gName 1) (gsCons (gName 2) (gsCons (gName 3) gsNil)))))
 (sSeq (sIf (tCmp dIs (eVar 3) (eC .non))
 (sRet (eOp dMul (eFun dLen (lCons (eVar 1) lNil)) (eFun dMax (lCons (eC (.int 1)) (lCons (eVar 2) lNil)))))
 sNext)
 (sRet (eOp dMul (eFun dLen (lCons (eVar 1) lNil)) (eVar 3)))))
def zbs:F:=runDef 4 zch
def zc0:E:=
 (eCall false 1 zbs (lCons (eVar 1) lNil))
def zdN:S:=
 (sRet (eFun dSum (lCons (eComp false (iSeq (eOp dIx (eVar 0) (eC (.int 1)))) (gName 1) tYes zc0 [1]) lNil)))
def zdn:F:=runDef 2 zdN
def zdo:S:=
 (sSeq (sIf (tOr (tNot (tVal (eFun dIsInst (lCons (eVar 1) (lCons (eC (.ty "tuple")) lNil))))) (tOr (tCmp dNe (eFun dLen (lCons (eVar 1) lNil)) (eC (.int 3))) (tOr (tNot (tVal (eCall false 1 zaG (lCons (eOp dIx (eVar 1) (eC (.int 0))) lNil)))) (tCmp dNotIn (eOp dIx (eVar 1) (eC (.int 0))) (eTup (lCons (eC (.str "cut")) (lCons (eC (.str "keep")) lNil)))))))
 (sRet (eC (.bl false)))
 sNext)
 (sRet (eAnd (eCall false 2 zaB (lCons (eVar 0) (lCons (eOp dIx (eVar 1) (eC (.int 1))) lNil))) (eCall false 2 zaB (lCons (eVar 0) (lCons (eOp dIx (eVar 1) (eC (.int 2))) lNil))))))
def zb1:F:=runDef 2 zdo
def zan:S:=
 (sW (sIf (tNot (tVal (eCall false 2 zb1 (lCons (eVar 0) (lCons (eVar 2) lNil)))))
 (sRaise "NoBook")
 sNext) [2])
def zaj:E:=
 (eCall false 1 zdn (lCons (eOp dIx (eVar 4) (eVar 3)) lNil))
def zaO:S:=
 (sW (sIf (tCmp dGt (eFun dSum (lCons (eComp false (iSeq (eVar 1)) (gName 4) tYes zaj [4]) lNil)) (eC (.int 12)))
 (sRaise "NoBook")
 sNext) [3])
def za0:S:=
 (sSeq (sIf (tOr (tNot (tVal (eFun dIsInst (lCons (eVar 1) (lCons (eC (.ty "list")) lNil))))) (tCmp dGt (eFun dLen (lCons (eVar 1) lNil)) (eC (.int 12))))
 (sRaise "NoBook")
 sNext)
 (sSeq (sFor (iSeq (eVar 1)) (gName 2)
 zan)
 (sFor (iSeq (eTup (lCons (eC (.int 1)) (lCons (eC (.int 2)) lNil)))) (gName 3)
 zaO)))
def zad:F:=runDef 5 za0
def za4:S:=
 (sSeq (sExpr (eLendS [1] (eCall false 1 zaf (lCons (eVar 1) lNil))))
 (sSeq (sExpr (eLendS [1,2] (eCall false 2 zad (lCons (eVar 1) (lCons (eVar 2) lNil)))))
 (sSeq (sSetF "Book" "own_kinds" (eFunL false dList (lCons (eVar 1) lNil)) (eVar 0))
 (sSetF "Book" "own_rules" (eFunL false dList (lCons (eVar 2) lNil)) (eVar 0)))))
def zaa:F:=runDef 3 za4
def zdh:S:=
 (sRet (eFunL true dList (lCons (eFld "Book" "own_kinds" (eVar 0)) lNil)))
def zai:F:=runDef 1 zdh
def zcz:S:=
 (sRet (eFunL true dList (lCons (eFld "Book" "own_rules" (eVar 0)) lNil)))
def zac:F:=runDef 1 zcz
def zd3:S:=
 (sSeq (sIf (tCmp dNe (eMethC false "Book" "kinds" 1 zai (eVar 0) lNil) (eMethC false "Book" "kinds" 1 zai (eVar 1) lNil))
 (sRaise "Unlike")
 sNext)
 (sRet (eNew "Book" 3 zaa (lCons (eMethC false "Book" "kinds" 1 zai (eVar 0) lNil) (lCons (eOp dAdd (eMethC false "Book" "rules" 1 zac (eVar 0) lNil) (eMethC false "Book" "rules" 1 zac (eVar 1) lNil)) lNil)))))
def zbZ:F:=runDef 2 zd3
def zbV:S:=
 (sSeq (sIf (tCmp dLt (eVar 1) (eFun dLen (lCons (eVar 0) lNil)))
 (sRet (eOp dIx (eVar 0) (eVar 1)))
 sNext)
 (sRet (eC (.int 0))))
def zaq:F:=runDef 2 zbV
def zaS:S:=
 (sIf (tCmp dGe (eVar 3) (eOp dPow (eC (.int 10)) (eC (.int 18))))
 (sSeq (sExpr (eAppend (eVar 2) (eOp dMod (eVar 3) (eOp dIx (eVar 1) (eVar 4)))))
 (sSet 3 (eOp dDiv (eVar 3) (eOp dIx (eVar 1) (eVar 4)))))
 (sSeq (sSet 5 (eOp dMod (eVar 3) (eOp dPow (eC (.int 10)) (eC (.int 18)))))
 (sSeq (sSet 6 (eOp dMod (eOp dMul (eOp dAdd (eOp dAdd (eVar 5) (eOp dMul (eC (.int 7)) (eVar 4))) (eC (.int 1))) (eOp dAdd (eC (.int 48271)) (eOp dMul (eOp dMul (eC (.int 2)) (eVar 4)) (eVar 4)))) (eC (.int 2147483647))))
 (sSeq (sSet 7 (eOp dMod (eOp dMul (eOp dAdd (eOp dAdd (eOp dDiv (eVar 5) (eC (.int 3))) (eOp dMul (eC (.int 11)) (eVar 4))) (eC (.int 5))) (eOp dAdd (eC (.int 39373)) (eOp dMul (eC (.int 6)) (eVar 4)))) (eC (.int 2147483629))))
 (sExpr (eAppend (eVar 2) (eOp dMod (eOp dAdd (eOp dMul (eVar 6) (eVar 7)) (eOp dDiv (eVar 6) (eC (.int 64)))) (eOp dIx (eVar 1) (eVar 4)))))))))
def zcm:S:=
 (sSeq (sSet 2 (eLst true lNil))
 (sSeq (sSet 3 (eVar 0))
 (sSeq (sThenF (sFor (iRange (eFun dLen (lCons (eVar 1) lNil))) (gName 4)
 zaS) 2)
 (sRet (eVar 2)))))
def zas:F:=runDef 8 zcm
def zbl:S:=
 (sSeq (sSet 9 (eOp dMul (eOp dMul (eC (.int 5)) (eVar 6)) (eFun dInt (lCons (eCmp dEq (eVar 8) (eVar 4)) lNil))))
 (sSet 7 (eOp dAdd (eVar 7) (eOp dIx (eVar 2) (eOp dMod (eOp dAdd (eOp dAdd (eOp dDiv (eVar 0) (eC (.int 64))) (eOp dMul (eOp dMul (eC (.int 7)) (eVar 8)) (eVar 8))) (eVar 9)) (eC (.int 26)))))))
def zbT:S:=
 (sSeq (sSet 7 (eC (.str "")))
 (sSeq (sFor (iRange (eVar 3)) (gName 8)
 zbl)
 (sExpr (eAppend (eVar 5) (eVar 7)))))
def zcI:S:=
 (sSeq (sSet 2 (eC (.str "abcdefghijklmnopqrstuvwxyz")))
 (sSeq (sSet 3 (eOp dAdd (eC (.int 1)) (eOp dMod (eVar 0) (eC (.int 8)))))
 (sSeq (sSet 4 (eOp dMod (eOp dDiv (eVar 0) (eC (.int 8))) (eVar 3)))
 (sSeq (sSet 5 (eLst true lNil))
 (sSeq (sThenF (sFor (iRange (eVar 1)) (gName 6)
 zbT) 5)
 (sRet (eVar 5)))))))
def zaz:F:=runDef 10 zcI
def zcr:S:=
 (sRet (eC (.str " !\"#$&'()*+,-./0123456789:;<=>?@ABCDEFGHIJKLMNOPQRSTUVWXYZ[\\]^_`abcdefghijklmnopqrstuvwxyz{|}~")))
def zaC:F:=runDef 0 zcr
def zcP:S:=
 (sW (sIf (tCmp dGt (eVar 6) (eC (.int 0)))
 (sExpr (eAppend (eVar 5) (eTup (lCons (eTup (lCons (eTup (lCons (eVar 0) lNil)) lNil)) (lCons (eVar 6) (lCons (eVar 6) lNil))))))
 sNext) [6])
def zaE:S:=
 (sW (sSeq (sSet 5 (eLst true lNil))
 (sSeq (sThenF (sFor (iSeq (eLst false (lCons (eFun dMin (lCons (eC (.int 6)) (lCons (eVar 4) lNil))) (lCons (eFun dMax (lCons (eC (.int 0)) (lCons (eOp dSub (eVar 4) (eC (.int 6))) lNil))) lNil)))) (gName 6)
 zcP) 5)
 (sExpr (eAppend (eVar 3) (eTup (lCons (eC (.bl false)) (lCons (eFun dTuple (lCons (eVar 5) lNil)) lNil))))))) [4,5,6])
def zca:S:=
 (sSeq (sSet 3 (eLst true lNil))
 (sSeq (sThenF (sFor (iSeq (eLst false (lCons (eVar 1) (lCons (eVar 2) lNil)))) (gName 4)
 zaE) 3)
 (sRet (eTup (lCons (eC (.str "keep")) (lCons (eOp dIx (eVar 3) (eC (.int 0))) (lCons (eOp dIx (eVar 3) (eC (.int 1))) lNil)))))))
def zaN:F:=runDef 7 zca
def zbC:S:=
 (sSeq (sAsg (eVar 0) (gTup 3 (gsCons (gName 2) (gsCons (gName 3) (gsCons (gName 4) gsNil)))))
 (sSeq (sSet 5 (eLst false (lCons (eCall false 3 zaN (lCons (eVar 1) (lCons (eVar 3) (lCons (eVar 4) lNil)))) lNil)))
 (sRet (eOp dAdd (eVar 5) (eOp dMul (eLst false (lCons (eTup (lCons (eC (.str "cut")) (lCons (eTup (lCons (eC (.bl false)) (lCons (eTup lNil) lNil))) (lCons (eTup (lCons (eC (.bl false)) (lCons (eTup lNil) lNil))) lNil)))) lNil)) (eVar 2))))))
def zag:F:=runDef 6 zbC
def zcg:S:=
 (sSeq (sIf (tCmp dNe (eVar 0) (eVar 1))
 (sRet (eC (.str "unlike")))
 sNext)
 (sSeq (sIf (tOr (tCmp dGt (eOp dAdd (eFun dLen (lCons (eVar 2) lNil)) (eFun dLen (lCons (eVar 3) lNil))) (eC (.int 12))) (tOr (tCmp dGt (eOp dAdd (eOp dIx (eVar 4) (eC (.int 1))) (eOp dIx (eVar 4) (eC (.int 4)))) (eC (.int 12))) (tCmp dGt (eOp dAdd (eOp dIx (eVar 4) (eC (.int 2))) (eOp dIx (eVar 4) (eC (.int 5)))) (eC (.int 12)))))
 (sRet (eC (.str "book")))
 sNext)
 (sRet (eC (.str "told")))))
def zar:F:=runDef 5 zcg
def zay (r:R D):S:=
 (sSeq (sIf (tCmp dIs (eVar 1) (eC .non))
 (sRet (eC (.str "told")))
 sNext)
 (sSeq (sSet 3 (eLst false (lCons (eFun (dIsX xtab_k82) (lCons (eVar 1) (lCons (eC (.cls "NoRule")) lNil))) (lCons (eFun (dIsX xtab_k82) (lCons (eVar 1) (lCons (eC (.cls "TooMany")) lNil))) (lCons (eFun (dIsX xtab_k82) (lCons (eVar 1) (lCons (eC (.cls "Unlike")) lNil))) lNil)))))
 (sSeq (sSet 3 (eOp dAdd (eVar 3) (eLst false (lCons (eFun (dIsX xtab_k82) (lCons (eVar 1) (lCons (eC (.cls "NoBook")) lNil))) (lCons (eFun (dIsX xtab_k82) (lCons (eVar 1) (lCons (eC (.cls "NoKinds")) lNil))) lNil)))))
 (sSeq (sIf (tOr (tCmp dNe (eMeth "list" mCount (eVar 3) (lCons (eC (.bl true)) lNil)) (eC (.int 1))) (tNot (tVal (eFun (dIsX xtab_k82) (lCons (eVar 1) (lCons (eC (.ty "ValueError")) lNil))))))
 (sRet (eC (.str "odd")))
 sNext)
 (sRet (eOp dIx (eLst false (lCons (eC (.str "rule")) (lCons (eC (.str "many")) (lCons (eC (.str "unlike")) (lCons (eC (.str "book")) (lCons (eC (.str "kinds")) lNil)))))) (eMeth "list" mIndex (eVar 3) (lCons (eC (.bl true)) lNil))))))))
def zbg (r:R D):S:=
 (sExpr (eApp0 0 r))
def za7 (r:R D):S:=
 (sSet 1 (eVar 2))
def zbO (r:R D):S:=
 (sSeq (sSet 1 (eC .non))
 (sTryK xtab_k82 "CutError" 2
 (zbg r) (za7 r)
 (zay r)))
def zae (r:R D):F:=runDef 4 (zbO r)
def zd0:E:=
 (eCall false 2 zbZ (lCons (eVar 0) (lCons (eVar 1) lNil)))
def zdT:E:=
 (eCall false 2 zbZ (lCons (eVar 1) (lCons (eVar 0) lNil)))
def zdL:S:=
 (sW (sSeq (sIf (tCmp dNe (eMkL zae [11,12] zd0) (eVar 13))
 (sRet (eC (.bl false)))
 sNext)
 (sIf (tCmp dNe (eMkL zae [11,12] zdT) (eVar 13))
 (sRet (eC (.bl false)))
 sNext)) [14])
def zdx:S:=
 (sW (sSeq (sSet 2 (eCall false 2 zaq (lCons (eVar 0) (lCons (eVar 1) lNil))))
 (sSeq (sSet 3 (eCall false 2 zas (lCons (eVar 2) (lCons (eLst false (lCons (eC (.int 12)) (lCons (eC (.int 13)) (lCons (eC (.int 13)) (lCons (eC (.int 12)) (lCons (eC (.int 13)) (lCons (eC (.int 13)) (lCons (eC (.int 12)) (lCons (eOp dPow (eC (.int 26)) (eC (.int 3))) (lCons (eC (.int 80)) lNil)))))))))) lNil))))
 (sSeq (sSet 4 (eCall false 2 zaz (lCons (eOp dIx (eVar 3) (eC (.int 7))) (lCons (eC (.int 3)) lNil))))
 (sSeq (sSet 5 (eCall false 0 zaC lNil))
 (sSeq (sSet 6 (eOp dIx (eVar 3) (eC (.int 8))))
 (sSeq (sSet 7 (eLst false (lCons (eTup (lCons (eOp dIx (eVar 4) (eC (.int 0))) (lCons (eCut (eVar 5) (oSome (eVar 6)) (oSome (eOp dAdd (eVar 6) (eC (.int 2))))) lNil))) (lCons (eTup (lCons (eOp dIx (eVar 4) (eC (.int 1))) (lCons (eCut (eVar 5) (oSome (eOp dAdd (eVar 6) (eC (.int 3)))) (oSome (eOp dAdd (eVar 6) (eC (.int 5))))) lNil))) lNil))))
 (sSeq (sSet 8 (eLst false (lCons (eUn dRev (eVar 7)) (lCons (eLst false (lCons (eTup (lCons (eOp dIx (eVar 4) (eC (.int 2))) (lCons (eOp dIx (eOp dIx (eVar 7) (eC (.int 0))) (eC (.int 1))) lNil))) (lCons (eOp dIx (eVar 7) (eC (.int 1))) lNil))) (lCons (eOp dAdd (eCut (eVar 7) oNo (oSome (eC (.int 1)))) (eLst false (lCons (eTup (lCons (eOp dIx (eVar 4) (eC (.int 1))) (lCons (eCut (eVar 5) (oSome (eOp dAdd (eVar 6) (eC (.int 3)))) (oSome (eOp dAdd (eVar 6) (eC (.int 6))))) lNil))) lNil))) lNil)))))
 (sSeq (sSet 8 (eOp dIx (eOp dAdd (eOp dAdd (eVar 8) (eLst false (lCons (eCut (eVar 7) oNo (oSome (eC (.int 1)))) (lCons (eOp dAdd (eVar 7) (eLst false (lCons (eTup (lCons (eOp dIx (eVar 4) (eC (.int 2))) (lCons (eOp dIx (eVar 5) (eOp dAdd (eVar 6) (eC (.int 8)))) lNil))) lNil))) lNil)))) (eOp dMul (eLst false (lCons (eFunL false dList (lCons (eVar 7) lNil)) lNil)) (eC (.int 7)))) (eOp dIx (eVar 3) (eC (.int 6)))))
 (sSeq (sSet 9 (eCall false 2 zag (lCons (eCut (eVar 3) oNo (oSome (eC (.int 3)))) (lCons (eOp dIx (eVar 4) (eC (.int 0))) lNil))))
 (sSeq (sSet 10 (eCall false 2 zag (lCons (eCut (eVar 3) (oSome (eC (.int 3))) (oSome (eC (.int 6)))) (lCons (eOp dIx (eOp dIx (eVar 8) (eC (.int 0))) (eC (.int 0))) lNil))))
 (sSeq (sSet 11 (eNew "Book" 3 zaa (lCons (eFunL false dList (lCons (eVar 7) lNil)) (lCons (eVar 9) lNil))))
 (sSeq (sSet 12 (eNew "Book" 3 zaa (lCons (eFunL false dList (lCons (eVar 8) lNil)) (lCons (eVar 10) lNil))))
 (sSeq (sSet 13 (eCall false 5 zar (lCons (eVar 7) (lCons (eVar 8) (lCons (eVar 9) (lCons (eVar 10) (lCons (eVar 3) lNil)))))))
 (sSeq (sFor (iRange (eC (.int 2))) (gName 14)
 zdL)
 (sSeq (sIf (tAnd (tCmp dEq (eVar 13) (eC (.str "told"))) (tCmp dNe (eMethC false "Book" "rules" 1 zac (eCall false 2 zbZ (lCons (eVar 11) (lCons (eVar 12) lNil))) lNil) (eOp dAdd (eVar 9) (eVar 10))))
 (sRet (eC (.bl false)))
 sNext)
 (sIf (tOr (tCmp dNe (eMethC false "Book" "rules" 1 zac (eVar 11) lNil) (eVar 9)) (tOr (tCmp dNe (eMethC false "Book" "rules" 1 zac (eVar 12) lNil) (eVar 10)) (tCmp dNe (eMethC false "Book" "kinds" 1 zai (eVar 12) lNil) (eVar 8))))
 (sRet (eC (.bl false)))
 sNext)))))))))))))))) [1,2,3,4,5,6,7,8,9,10,11,12,13,14])
def zdU:S:=
 (sSeq (sFor (iRange (eFun dMax (lCons (eC (.int 1)) (lCons (eFun dMin (lCons (eFun dLen (lCons (eVar 0) lNil)) (lCons (eC (.int 12)) lNil))) lNil)))) (gName 1)
 zdx)
 (sRet (eC (.bl true))))
def zeb:F:=runDef 15 zdU
end TT

namespace TT
open PySem
local macro_rules | `(tactic| simp_arith [$ls,*]) => `(tactic| simp -implicitDefEqProofs only [qaK, qem, qel, qdN, qcp, qeP, qeO, qdO, qeQ, qfx, qfA, qcM, qdR, qgR, qeM, qds, eC_a, qek, qc3, qeh, qfq, qfr, qei, qfs, qgS, qft, qin, qfu, qio, qej, qfv, qdQ, qc5, qfB, qkk, qdP, qeN, qc4, qfw, qcK, qdu, qc2, qdt, R.bind_ok, R.bind_exc, R.then_ok, R.then_exc, R.of_some, waZ, waK, qbi, qeR, qcL, qfy, qfz, qbW, qbA, qbX, qgT, qfC, qdS, waQ, waI, waD, waE, qcD, qcU, qbO, qbP, qcE, qcF, qcG, if_true, if_false, ite_true, ite_false, waG, Bool.not_true, Bool.not_false, wbv, wah, wa8, wab, was, Nat.reduceAdd, Nat.reduceSub, Nat.reduceLeDiff, waU, List.replicate, wbo, wax, qaH, qbQ, qeU, qdU, qdV, qdT, qeT, qgX, qgW, qgV, qgU, qgY, qgZ, qfE, qg0, qg1, qfF, qbY, qdW, qdX, qeX, qeY, qg2, qg3, beq_self_eq_true, LN1, qe0, qbK, qe1, qg6, qdY, $ls,*])
local macro_rules | `(tactic| simp_arith [$ls,*] $l:location) => `(tactic| simp -implicitDefEqProofs only [qaK, qem, qel, qdN, qcp, qeP, qeO, qdO, qeQ, qfx, qfA, qcM, qdR, qgR, qeM, qds, eC_a, qek, qc3, qeh, qfq, qfr, qei, qfs, qgS, qft, qin, qfu, qio, qej, qfv, qdQ, qc5, qfB, qkk, qdP, qeN, qc4, qfw, qcK, qdu, qc2, qdt, R.bind_ok, R.bind_exc, R.then_ok, R.then_exc, R.of_some, waZ, waK, qbi, qeR, qcL, qfy, qfz, qbW, qbA, qbX, qgT, qfC, qdS, waQ, waI, waD, waE, qcD, qcU, qbO, qbP, qcE, qcF, qcG, if_true, if_false, ite_true, ite_false, waG, Bool.not_true, Bool.not_false, wbv, wah, wa8, wab, was, Nat.reduceAdd, Nat.reduceSub, Nat.reduceLeDiff, waU, List.replicate, wbo, wax, qaH, qbQ, qeU, qdU, qdV, qdT, qeT, qgX, qgW, qgV, qgU, qgY, qgZ, qfE, qg0, qg1, qfF, qbY, qdW, qdX, qeX, qeY, qg2, qg3, beq_self_eq_true, LN1, qe0, qbK, qe1, qg6, qdY, $ls,*] $l:location)
local macro_rules | `(tactic| simp_arith! [$ls,*]) => `(tactic| simp -implicitDefEqProofs (disch := (simp only [wao, waa, wab, was]; omega)) only [qaK, qem, qel, qdN, qcp, qeP, qeO, qdO, qeQ, qfx, qfA, qcM, qdR, qgR, qeM, qds, eC_a, qek, qc3, qeh, qfq, qfr, qei, qfs, qgS, qft, qin, qfu, qio, qej, qfv, qdQ, qc5, qfB, qkk, qdP, qeN, qc4, qfw, qcK, qdu, qc2, qdt, R.bind_ok, R.bind_exc, R.then_ok, R.then_exc, R.of_some, waZ, waK, qbi, qeR, qcL, qfy, qfz, qbW, qbA, qbX, qgT, qfC, qdS, waQ, waI, waD, waE, qcD, qcU, qbO, qbP, qcE, qcF, qcG, if_true, if_false, ite_true, ite_false, waG, Bool.not_true, Bool.not_false, wbv, wah, wa8, wab, was, Nat.reduceAdd, Nat.reduceSub, Nat.reduceLeDiff, waU, List.replicate, wbo, wax, qaH, qbQ, qeU, qdU, qdV, qdT, qeT, qgX, qgW, qgV, qgU, qgY, qgZ, qfE, qg0, qg1, qfF, qbY, qdW, qdX, qeX, qeY, qg2, qg3, beq_self_eq_true, LN1, qe0, qbK, qe1, qg6, qdY, $ls,*])
set_option maxHeartbeats 1000000
local macro_rules | `(tactic| array_get_dec) => `(tactic| ((with_reducible apply qmA); exact rfl))
local macro_rules | `(tactic| array_get_dec) => `(tactic| ((with_reducible apply qmz); exact rfl; exact rfl))
local macro_rules | `(tactic| array_get_dec) => `(tactic| ((with_reducible apply qmy); exact rfl; exact rfl))
local macro_rules | `(tactic| array_get_dec) => `(tactic| ((with_reducible apply qmx); exact rfl; exact rfl))
local macro_rules | `(tactic| array_get_dec) => `(tactic| ((with_reducible apply qmw); exact rfl; exact rfl))
local macro_rules | `(tactic| array_get_dec) => `(tactic| ((with_reducible apply qiC); exact rfl))
local macro_rules | `(tactic| array_get_dec) => `(tactic| ((with_reducible apply qiB); exact rfl))
local macro_rules | `(tactic| array_get_dec) => `(tactic| apply_rules (transparency := .reducible) (maxDepth := 1) -symm -exfalso only [qmj, qju, qjv, qky, qiE, qkz, qkA, qiF, qjw, qkB, qmk, qml, qar, qmp, qkC, qkD, qkE, qiG, qkF, qkG, qmo, qnR, qmm, qmn, qmq, qaN, qcb, qms, z_sw, qd2, qbH, qmt, qfN, qkK, qnO, qma, qmY, qm0])
local macro_rules | `(tactic| array_get_dec) => `(tactic| ((with_reducible apply qhl); exact rfl))
local macro_rules | `(tactic| array_get_dec) => `(tactic| ((with_reducible apply qiL); exact rfl))
local macro_rules | `(tactic| sizeOf_list_dec) => `(tactic| ((with_reducible apply qhm); exact rfl))
local macro_rules | `(tactic| sizeOf_list_dec) => `(tactic| ((with_reducible apply qmd); exact rfl))
local macro_rules | `(tactic| sizeOf_list_dec) => `(tactic| ((with_reducible apply qmc); exact rfl))
local macro_rules | `(tactic| sizeOf_list_dec) => `(tactic| ((with_reducible apply qmb); exact rfl))
local macro_rules | `(tactic| array_mem_dec) => `(tactic| exact rfl)
local macro_rules | `(tactic| array_mem_dec) => `(tactic| with_reducible exact qm1 (by omega))
local macro_rules | `(tactic| array_mem_dec) => `(tactic| with_reducible exact qmE (by first | omega | (simp only [wao, waa, wab, was, waO, wbd]; omega)))
local macro_rules | `(tactic| array_mem_dec) => `(tactic| with_reducible exact qeW (by first | omega | (simp only [wao, waa, wab, was, waO, wbd]; omega)))
local macro_rules | `(tactic| array_mem_dec) => `(tactic| with_reducible exact qmG (by simp only [wab, was, waU, Nat.reduceAdd]; exact rfl))
local macro_rules | `(tactic| array_mem_dec) => `(tactic| with_reducible exact qmX (by first | assumption | omega | (simp only [wao, waa, wab, was, waO, wbd]; omega)))
local macro_rules | `(tactic| array_mem_dec) => `(tactic| apply_rules (transparency := .reducible) (maxDepth := 1) -symm -exfalso only [qkT, qmW, qmV, qmP, qmQ, qmR, qmS, qmC, qnS, qmD, qnU, qnT, qnV, qnX, qnY, qkU, qnZ, qfO, qjx, qkQ, qhk, qmT, qmU, qiH, qiI, qiJ, qiK, qmL, qmM, qmN, qmO, qkM, qkN, qkO, qkP, qmH, qmI, qmJ, qmK, qkp, qmF])
local macro_rules | `(tactic| array_mem_dec) => `(tactic| with_reducible exact qkR (by simp only [wab, was, waU, Nat.reduceAdd]; exact rfl))
local macro_rules | `(tactic| simp_all_arith!) => `(tactic| ((simp only [waE, waD, qbA, qbW, wab, was, waU, Nat.reduceAdd, wax, wbo, wah, wa8, Nat.reduceSub, List.replicate, List.take_succ_cons, List.take_zero, Nat.add_zero]) <;> first | with_reducible exact rfl | decide | omega))
local macro_rules | `(tactic| simp_all_arith!) => `(tactic| refine (if_neg (by decide)).trans ?_)
local macro_rules | `(tactic| simp_all_arith!) => `(tactic| refine (if_pos (by decide)).trans ?_)
local macro_rules | `(tactic| simp_all_arith!) => `(tactic| refine (if_neg (by assumption)).trans ?_)
local macro_rules | `(tactic| simp_all_arith!) => `(tactic| refine (if_pos (by assumption)).trans ?_)
local macro_rules | `(tactic| simp_all_arith!) => `(tactic| refine (if_neg (fun h => absurd (show (!true) = true from (congrArg Bool.not (decide_eq_true (by assumption))).symm.trans h) (by decide))).trans ?_)
local macro_rules | `(tactic| simp_all_arith!) => `(tactic| refine (if_pos (show (!_) = true from congrArg Bool.not (decide_eq_false (by assumption)))).trans ?_)
local macro_rules | `(tactic| simp_all_arith!) => `(tactic| refine (if_neg (fun h => absurd (of_decide_eq_true h) (by assumption))).trans ?_)
local macro_rules | `(tactic| simp_all_arith!) => `(tactic| refine (if_pos (decide_eq_true (by assumption))).trans ?_)
local macro_rules | `(tactic| simp_all_arith!) => `(tactic| with_reducible refine (if_neg wak).trans ?_)
local macro_rules | `(tactic| simp_all_arith!) => `(tactic| with_reducible refine (if_pos (Eq.refl true)).trans ?_)
local macro_rules | `(tactic| decreasing_trivial_pre_omega) => `(tactic| (simp only [wao, waa, wab, was, waO, wbd]; omega))
local macro_rules | `(tactic| decreasing_trivial_pre_omega) => `(tactic| omega)
local macro_rules | `(tactic| decreasing_trivial_pre_omega) => `(tactic| exact (by assumption : (_ : Prop)))
local macro_rules | `(tactic| decreasing_trivial_pre_omega) => `(tactic| ((with_reducible show _ = _) <;> assumption))
local macro_rules | `(tactic| simp_all_arith [$ls,*]) => do
 let mut ts:Array (Lean.TSyntax `term):=#[]
 for l in ls.getElems do
  match l with
  | `(Lean.Parser.Tactic.simpLemma| $t:term)=>ts:=ts.push t
  | _=>pure ()
 let acc <- if ts.isEmpty then `(tactic| fail) else `(tactic| apply_rules (transparency:=.reducible) (maxDepth:=1) -symm -exfalso only [$[$ts:term],*])
 `(tactic| repeat' (first
  | ((with_reducible show _=_) <;> with_reducible assumption)
  | ((with_reducible show (_:TT.R D)=_); first
   | apply_rules (transparency:=.reducible) (maxDepth:=1) -symm -exfalso only [qal,z_c]
   | $acc:tactic
   | apply_rules (transparency:=.reducible) (maxDepth:=1) -symm -exfalso only [z_op,z_un,qnJ,ql2,qnL,ql3,qnM,qcw,qaV,ql4,qe3,qd0,qkt,qe4,qjs,qiA,ql7,ql8,ql9,qbu,qkv,qkw,qnQ,qmh,qmi,qiD,qkV,z_gc,z_mk,qiN,qkW,qnP,qgd,qku,qmB,qkL,qmf,qd1])
  | ((with_reducible show (_:TT.R (List D))=_); first
   | apply_rules (transparency:=.reducible) (maxDepth:=1) -symm -exfalso only [qaf,qao]
   | $acc:tactic
   | apply_rules (transparency:=.reducible) (maxDepth:=1) -symm -exfalso only [qaf,qao,ql5,zcR,ql6,qnN])
  | ((with_reducible show (_:TT.O)=_); first
   | array_get_dec
   | $acc:tactic)
  | $acc:tactic
  | ((with_reducible show (_:TT.R Bool)=_); apply_rules (transparency:=.reducible) (maxDepth:=1) -symm -exfalso only [qaX,qjq,qjr,qnK,ql1,z_or,qiz,qhh,qme,qmg])
  | ((with_reducible show (_:Option Ev)=_); apply_rules (transparency:=.reducible) (maxDepth:=1) -symm -exfalso only [qhj,qmu,qkI,qkJ,qmv])
  | ((with_reducible show (_:TT.R (Option Int))=_); apply_rules (transparency:=.reducible) (maxDepth:=1) -symm -exfalso only [z_no,qbG])
  | ((with_reducible show (_:Bool)=_); apply_rules (transparency:=.reducible) (maxDepth:=1) -symm -exfalso only [qbZ])
  | sizeOf_list_dec
  | simp_all_arith!
  | simp only [qcD,qcU,qbO,qbP,qcE,qcF,qcG,wah,wa8]
  | array_mem_dec
  | decreasing_trivial_pre_omega))
theorem qe5 {f:F} {a b:E} {x y d:D} {ρ:Ev} {m m1 m2:Mem} (ha:a ρ m = .ok x m1) (hb:b ρ m1 = .ok y m2) (nx:noLoc x=true) (ny:noLoc y=true) (hf:∃ m',f [x,y] [] = .ok d m') (h:noLoc d=true):eCall false 2 f (lCons a (lCons b lNil)) ρ m = .ok d m2:=by
 refine qfD (M:=false) (ds:=[x,y]) ?_ rfl ?_ hf h
 ·simp_arith [ha,hb]
 ·simp [noLocs,nx,ny]
theorem qcc {f:F} {a:E} {x d:D} {ρ:Ev} {m m1:Mem} (ha:a ρ m = .ok x m1) (nx:noLoc x=true) (hf:∃ m',f [x] [] = .ok d m') (h:noLoc d=true):eCall false 1 f (lCons a lNil) ρ m = .ok d m1:=by
 refine qfD (M:=false) (ds:=[x]) ?_ rfl ?_ hf h
 ·simp_arith [ha]
 ·simp [noLocs,nx]
theorem qm6 (ns:List Int) (k:Nat):∃ (v:Int) (m' : Mem),zaq [.lst (ns.map D.int),.int (k:Nat)] [] = .ok (.int v) m':=by
 unfold zaq zbV
 by_cases h:k < ns.length
 ·refine ⟨ns[k],[],?_⟩
  simp [h]
 ·refine ⟨0,[],?_⟩
  simp [h]
theorem qk0 (c l z:Int) (zs xs:List Int) (j:Nat) (a5 a6 a7:Option D) (ez:zs[j]? = some z) (hz:0 < z∧z < 1267650600228229401496703205376) (hj:j≤1000) (hx:xs.length≤1000) (hl:True):∃ (y l' : Int) (b5 b6 b7:Option D),0≤y∧y < z ∧
  zaS [some (.int c),some (.lst (zs.map D.int)),some (.loc 0),some (.int l),some (.int (j:Nat)),a5,a6,a7] [.lst (xs.map D.int)] = .nx [some (.int c),some (.lst (zs.map D.int)),some (.loc 0),some (.int l'),some (.int (j:Nat)),b5,b6,b7] [.lst ((xs++[y]).map D.int)]:=by
 have hx2:xs.length < 16777216:=by omega
 unfold zaS
 by_cases hc:1000000000000000000≤l
 ·refine ⟨l % z,l / z,a5,a6,a7,wa6 _ (by omega),wa9 _ hz.1,?_⟩
  simp -implicitDefEqProofs [qen,hc,ez,qbr hz.1,qc6 hz,qeV,hx2]
 ·have h5:=wa6 l (b:=1000000000000000000) (by omega)
  have h6:=wa9 l (b:=1000000000000000000) (by omega)
  generalize e5:l % 1000000000000000000=s5 at h5 h6
  obtain ⟨o1,e6⟩:∃ o1,(s5+7 * (j:Int)+1) * (48271+2 * (j:Int) * (j:Int)) % 2147483647=o1:=⟨_,rfl⟩
  have h7:=wa6 ((s5+7 * (j:Int)+1) * (48271+2 * (j:Int) * (j:Int))) (b:=2147483647) (by omega)
  have h8:=wa9 ((s5+7 * (j:Int)+1) * (48271+2 * (j:Int) * (j:Int))) (b:=2147483647) (by omega)
  rw [e6] at h7 h8
  obtain ⟨o2,e7⟩:∃ o2,(s5 / 3+11 * (j:Int)+5) * (39373+6 * (j:Int)) % 2147483629=o2:=⟨_,rfl⟩
  refine ⟨(o1 * o2+o1 / 64) % z,l,some (.int s5),some (.int o1),some (.int o2),wa6 _ (by omega),wa9 _ hz.1,?_⟩
  have k1:dMod (.int l) (.int 1000000000000000000)=some (.int s5):=by rw [qbr (by omega),e5]
  have k2:dMul (.int 7) (.int (j:Int))=some (.int (7 * (j:Int))):=qbb (by omega)
  have k3:dMul (.int 2) (.int (j:Int))=some (.int (2 * (j:Int))):=qbb (by omega)
  have k4:dMul (.int (2 * (j:Int))) (.int (j:Int))=some (.int (2 * (j:Int) * (j:Int))):=qbb (by omega)
  have k5:dMul (.int (s5+7 * (j:Int)+1)) (.int (48271+2 * (j:Int) * (j:Int)))=some (.int ((s5+7 * (j:Int)+1) * (48271+2 * (j:Int) * (j:Int)))):=qbb (by omega)
  have k6:dMod (.int ((s5+7 * (j:Int)+1) * (48271+2 * (j:Int) * (j:Int)))) (.int 2147483647)=some (.int o1):=by rw [qbr (by omega),e6]
  have k7:dDiv (.int s5) (.int 3)=some (.int (s5 / 3)):=qc6 (by omega)
  have k8:dMul (.int 11) (.int (j:Int))=some (.int (11 * (j:Int))):=qbb (by omega)
  have k9:dMul (.int 6) (.int (j:Int))=some (.int (6 * (j:Int))):=qbb (by omega)
  have k10:dMul (.int (s5 / 3+11 * (j:Int)+5)) (.int (39373+6 * (j:Int)))=some (.int ((s5 / 3+11 * (j:Int)+5) * (39373+6 * (j:Int)))):=qlQ (by omega)
  have k11:dMod (.int ((s5 / 3+11 * (j:Int)+5) * (39373+6 * (j:Int)))) (.int 2147483629)=some (.int o2):=by rw [qbr (by omega),e7]
  have k12:dMul (.int o1) (.int o2)=some (.int (o1 * o2)):=qbb (by omega)
  have k13:dDiv (.int o1) (.int 64)=some (.int (o1 / 64)):=qc6 (by omega)
  simp -implicitDefEqProofs [qen,hc,ez,k1,k2,k3,k4,k5,k6,k7,k8,k9,k10,k11,k12,k13,qbr hz.1,qeV,hx2]
theorem qk1 (c:Int) (zs:List Int) (hl:zs.length≤1000) (hz:∀ z∈zs,0 < z∧z < 1267650600228229401496703205376):∃ xs:List Int,xs.length=zs.length∧(∀ (i:Nat) (x z:Int),xs[i]? = some x→zs[i]? = some z→0≤x∧x < z)∧∃ m',zas [.int c,.lst (zs.map D.int)] [] = .ok (.lst (xs.map D.int)) m':=by
 let I:Nat→Ev→Mem→Prop:=fun i ρ m=>∃ (xs:List Int) (l:Int) (a4 a5 a6 a7:Option D),ρ=[some (.int c),some (.lst (zs.map D.int)),some (.loc 0),some (.int l),a4,a5,a6,a7]∧m=[.lst (xs.map D.int)]∧xs.length=i∧∀ (i:Nat) (x z:Int),xs[i]? = some x→zs[i]? = some z→0≤x∧x < z
 have key:=qcN (g:=gName 4) (b:=zaS) (R:=fun o=>∃ (xs:List Int) (l:Int) (a4 a5 a6 a7:Option D),o = .nx [some (.int c),some (.lst (zs.map D.int)),some (.loc 0),some (.int l),a4,a5,a6,a7] [.lst (xs.map D.int)]∧xs.length=zs.length∧∀ (i:Nat) (x z:Int),xs[i]? = some x→zs[i]? = some z→0≤x∧x < z) I (dRange (zs.length:Nat)) 0 _ _ ⟨[],c,none,none,none,none,rfl,rfl,rfl,by simp⟩ ?_ ?_
 ·obtain ⟨xs,l,a4,a5,a6,a7,e,h1,h2⟩:=key
  refine ⟨xs,h1,h2,[.dead],?_⟩
  unfold zas zcm
  have e:forL (gName 4) zaS (dRange (zs.length:Nat)) [some (D.int c),some (D.lst (List.map D.int zs)),some (D.loc 0),some (D.int c),none,none,none,none] [Cell.lst []]=_:=e
  simp -implicitDefEqProofs [qa2 (show zs.length≤16777216 by omega),e,frzAt]
 ·rintro j d ρ m hd ⟨xs,l,a4,a5,a6,a7,rfl,rfl,h1,h2⟩
  obtain ⟨hj,rfl⟩:=qb9 hd
  rw [waU] at h1
  obtain ⟨z,ez⟩:∃ z,zs[j]? = some z:=⟨_,wan hj⟩
  obtain ⟨y,l',b5,b6,b7,hy1,hy2,e⟩:=qk0 c l z zs xs j a5 a6 a7 ez (hz z (waf ez)) (by omega) (by omega) trivial
  refine ⟨_,rfl,.inl ⟨_,_,.inl e,xs++[y],l',_,_,_,_,rfl,rfl,by simp [h1],?_⟩⟩
  intro i x z' e1 e2
  by_cases hi:i < xs.length
  ·rw [waq hi] at e1
   exact h2 i x z' e1 e2
  ·rw [waH (wa4 hi)] at e1
   have hi' : i=xs.length:=by
    have:=(waj.mp e1).1
    simp at this; omega
   subst hi'
   rw [Nat.sub_self] at e1
   obtain rfl:y=x:=by simpa using e1
   rw [h1,ez] at e2
   obtain rfl:z=z':=by simpa using e2
   exact ⟨hy1,hy2⟩
 ·rintro ρ m ⟨xs,l,a4,a5,a6,a7,rfl,rfl,h1,h2⟩
  exact ⟨xs,l,a4,a5,a6,a7,rfl,by simpa using h1,h2⟩
def nmSz (c:Int):Nat:=(1+c % 8).toNat
def nmAt (c:Int):Int:=c / 8 % (nmSz c:Nat)
def nmLet (c:Int) (k j:Nat):Nat:=97+((c / 64+7 * (j:Int) * (j:Int)+5 * (k:Int) * (if (j:Int) == nmAt c then 1 else 0)) % 26).toNat
def nmOf (c:Int) (k:Nat):List Nat:=(List.range (nmSz c)).map (nmLet c k)
theorem qbv (c:Int):1≤nmSz c∧nmSz c≤8:=by unfold nmSz; omega
theorem qiT (c:Int) (k:Nat) (hk:k≤1000) (nl:D) (a9:Option D) (j:Nat) (hj:j < 8) (l:List Nat) (hl:l.length≤8) (m:Mem) (many:D) :
  ∃ b9,zbl [some (.int c),some many,some (.str "abcdefghijklmnopqrstuvwxyz"),some (.int (nmSz c:Nat)),some (.int (nmAt c)),some nl,some (.int (k:Nat)),some (tx l),some (.int (j:Nat)),a9] m
   = .nx [some (.int c),some many,some (.str "abcdefghijklmnopqrstuvwxyz"),some (.int (nmSz c:Nat)),some (.int (nmAt c)),some nl,some (.int (k:Nat)),some (tx (l++[nmLet c k j])),some (.int (j:Nat)),b9] m:=by
 refine ⟨some (.int (5 * (k:Int) * (if (j:Int) == nmAt c then 1 else 0))),?_⟩
 have hb:(if ((j:Int) == nmAt c)=true then (1:Int) else 0)≤1∧0≤(if ((j:Int) == nmAt c)=true then (1:Int) else 0):=by split <;> omega
 have k1:dMul (.int 5) (.int (k:Int))=some (.int (5 * (k:Int))):=qbb (by omega)
 have k2:dMul (.int (5 * (k:Int))) (.int (if (j:Int) == nmAt c then 1 else 0))=some (.int (5 * (k:Int) * (if (j:Int) == nmAt c then 1 else 0))):=qbb (by omega)
 have k3:dDiv (.int c) (.int 64)=some (.int (c / 64)):=qc6 (by omega)
 have k4:dMul (.int 7) (.int (j:Int))=some (.int (7 * (j:Int))):=qbb (by omega)
 have k5:dMul (.int (7 * (j:Int))) (.int (j:Int))=some (.int (7 * (j:Int) * (j:Int))):=qbb (by omega)
 have k6:=fun x:Int=>qbr (i:=x) (j:=26) (by omega)
 have k7:∀ x:Int,dIx (.str "abcdefghijklmnopqrstuvwxyz") (.int (x % 26))=some (sg (97+(x % 26).toNat)):=fun x=>by
  rw [qdv]
  refine qlV (by simp) (wa6 _ (by omega)) ?_
  have h2:=wa9 x (b:=26) (by omega)
  have h3:=wa6 x (b:=26) (by omega)
  rw [wal,wbp (by omega)]
  rfl
 have k8:∀ x:Nat,dAdd (tx l) (sg x)=some (tx (l++[x])):=fun x=>qeW (b:=[x]) (by simp; omega)
 unfold zbl
 simp -implicitDefEqProofs only [qaK,qem,qgR,qds,eC_a,qek,qeh,qc2,qdt,R.bind_ok,R.then_ok,waQ,waI,waD,waE,qbO,qbP,qfE,waZ,R.of_some,wah,wa8,qcU,qfF,k1,k2,k3,k4,k5,k6,k7,k8,qdT,nmLet]
theorem qhq (c:Int) (k:Nat) (hk:k≤1000) (nl many:D) (a8 a9:Option D) (m:Mem) :
  ∃ b8 b9,forL (gName 8) zbl (dRange (nmSz c:Nat)) [some (.int c),some many,some (.str "abcdefghijklmnopqrstuvwxyz"),some (.int (nmSz c:Nat)),some (.int (nmAt c)),some nl,some (.int (k:Nat)),some (tx []),a8,a9] m
   = .nx [some (.int c),some many,some (.str "abcdefghijklmnopqrstuvwxyz"),some (.int (nmSz c:Nat)),some (.int (nmAt c)),some nl,some (.int (k:Nat)),some (tx (nmOf c k)),b8,b9] m:=by
 have hs:=qbv c
 refine qcN (R:=fun o=>∃ b8 b9,o = .nx [some (.int c),some many,some (.str "abcdefghijklmnopqrstuvwxyz"),some (.int (nmSz c:Nat)),some (.int (nmAt c)),some nl,some (.int (k:Nat)),some (tx (nmOf c k)),b8,b9] m)
  (fun i ρ m'=>∃ b8 b9,ρ=[some (.int c),some many,some (.str "abcdefghijklmnopqrstuvwxyz"),some (.int (nmSz c:Nat)),some (.int (nmAt c)),some nl,some (.int (k:Nat)),some (tx ((List.range i).map (nmLet c k))),b8,b9]∧m' = m) _ 0 _ _ ⟨a8,a9,rfl,rfl⟩ ?_ ?_
 ·rintro j d ρ m' hd ⟨b8,b9,rfl,rfl⟩
  obtain ⟨hj,rfl⟩:=qb9 hd
  rw [waU]
  obtain ⟨c9,e⟩:=qiT c k hk nl b9 j (by omega) ((List.range j).map (nmLet c k)) (by simp; omega) m' many
  refine ⟨_,rfl,.inl ⟨_,_,.inl e,some (.int (j:Nat)),c9,?_,rfl⟩⟩
  rw [List.range_succ,waP]
  rfl
 ·rintro ρ m' ⟨b8,b9,rfl,rfl⟩
  refine ⟨b8,b9,?_⟩
  rw [qbj,waU]
  rfl
theorem qhr (c:Int) (n:Nat) (hn:n≤1000) :
  ∃ b6 b7 b8 b9,forL (gName 6) zbT (dRange (n:Nat)) [some (.int c),some (.int (n:Nat)),some (.str "abcdefghijklmnopqrstuvwxyz"),some (.int (nmSz c:Nat)),some (.int (nmAt c)),some (.loc 0),none,none,none,none] [.lst []]
   = .nx [some (.int c),some (.int (n:Nat)),some (.str "abcdefghijklmnopqrstuvwxyz"),some (.int (nmSz c:Nat)),some (.int (nmAt c)),some (.loc 0),b6,b7,b8,b9] [.lst ((List.range n).map fun k=>tx (nmOf c k))]:=by
 have hs:=qbv c
 refine qcN (R:=fun o=>∃ b6 b7 b8 b9,o = .nx [some (.int c),some (.int (n:Nat)),some (.str "abcdefghijklmnopqrstuvwxyz"),some (.int (nmSz c:Nat)),some (.int (nmAt c)),some (.loc 0),b6,b7,b8,b9] [.lst ((List.range n).map fun k=>tx (nmOf c k))])
  (fun i ρ m'=>∃ b6 b7 b8 b9,ρ=[some (.int c),some (.int (n:Nat)),some (.str "abcdefghijklmnopqrstuvwxyz"),some (.int (nmSz c:Nat)),some (.int (nmAt c)),some (.loc 0),b6,b7,b8,b9]∧m' = [.lst ((List.range i).map fun k=>tx (nmOf c k))]) _ 0 _ _ ⟨none,none,none,none,rfl,rfl⟩ ?_ ?_
 ·rintro k d ρ m' hd ⟨b6,b7,b8,b9,rfl,rfl⟩
  obtain ⟨hk,rfl⟩:=qb9 hd
  rw [waU]
  obtain ⟨c8,c9,e⟩:=qhq c k (by omega) (.loc 0) (.int (n:Nat)) b8 b9 [.lst ((List.range k).map fun k=>tx (nmOf c k))]
  have hk2:k < 16777216:=by omega
  have e2:PySem.Str.ofString "" = ⟨#[]⟩:=by decide +kernel
  refine ⟨_,rfl,.inl ⟨_,_,.inl (?_:_=O.nx [some (.int c),some (.int (n:Nat)),some (.str "abcdefghijklmnopqrstuvwxyz"),some (.int (nmSz c:Nat)),some (.int (nmAt c)),some (.loc 0),some (.int (k:Nat)),some (tx (nmOf c k)),c8,c9] [.lst ((List.range (k+1)).map fun k=>tx (nmOf c k))]),_,_,_,_,rfl,rfl⟩⟩
  unfold zbT
  simp -implicitDefEqProofs [e2,qa2 (show nmSz c≤16777216 by omega),e,qeV,hk2,List.range_succ]
 ·rintro ρ m' ⟨b6,b7,b8,b9,rfl,rfl⟩
  refine ⟨b6,b7,b8,b9,?_⟩
  rw [qbj,waU]
theorem qk2 (c:Int) (n:Nat) (hn:n≤1000):∃ m',zaz [.int c,.int (n:Nat)] [] = .ok (.lst ((List.range n).map fun k=>tx (nmOf c k))) m':=by
 obtain ⟨b6,b7,b8,b9,e⟩:=qhr c n hn
 have hs:=qbv c
 have h1:(1:Int)+c % 8=(nmSz c:Nat):=by unfold nmSz; omega
 have k1:dMod (.int c) (.int 8)=some (.int (c % 8)):=qbr (by omega)
 have k2:dDiv (.int c) (.int 8)=some (.int (c / 8)):=qc6 (by omega)
 have k3:dMod (.int (c / 8)) (.int (nmSz c:Nat))=some (.int (nmAt c)):=qbr (by omega)
 refine ⟨[.dead],?_⟩
 unfold zaz zcI
 simp -implicitDefEqProofs [k1,k2,k3,h1,qa2 (show n≤16777216 by omega),e,frzAt]
abbrev Kd:=List (Str × List Nat)
def kdD (p:Str × List Nat):D:=.tup [.str p.1,tx p.2]
def kd (ks:Kd):D:=.lst (ks.map kdD)
theorem qk3 (m:Mem):zaC [] m = .ok (tx pln) m:=by
 unfold zaC zcr
 simp_arith [qfG]
theorem qaw (ks:Kd):noLocs (ks.map kdD)=true:=qas _ (fun _=>rfl) ks
structure GoodK (ks:Kd):Prop where
 dis:ks.Pairwise fun p q=>∀ c∈p.2,c∉q.2
 ne:∀ p∈ks,p.2≠[]
 pln:∀ p∈ks,∀ c∈p.2,c∈pln
 sz:∀ p∈ks,p.2.length≤16777216
 len:ks.length≤1000
 free:∃ c∈TT.pln,∀ p∈ks,c∉p.2
def flatK (ks:Kd):List Nat:=(ks.map (·.2)).flatten
def tyOk:D→Bool
 | .non=>true | .bl _=>true | .int _=>true | .str _=>true | .lst _=>true | .tup _=>true | .dct _=>true
 | _=>false
theorem qcd {n:Nat} {d:D} (h:dataN n d=true):tyOk d=true:=by
 cases d <;> first | rfl | (cases n <;> cases h)
mutual
theorem qce:∀ {n:Nat} {d:D},dataN n d=true→noLoc d=true
 | _,.non,_=>rfl
 | _,.bl _,_=>rfl
 | _,.int _,_=>rfl
 | _,.str _,_=>rfl
 | n+1,.lst xs,h=>qbN (n:=n) (xs:=xs) fun x hx=>wag.mp (show xs.all (dataN n)=true from h) x hx
 | n+1,.tup xs,h=>qbN (n:=n) (xs:=xs) fun x hx=>wag.mp (show xs.all (dataN n)=true from h) x hx
 | 0,.lst _,h=>by cases h
 | 0,.tup _,h=>by cases h
 | n,.dct _,h=>by cases n <;> cases h
 | n,.obj _ _,h=>by cases n <;> cases h
 | n,.exc _ _,h=>by cases n <;> cases h
 | n,.cls _,h=>by cases n <;> cases h
 | n,.ty _,h=>by cases n <;> cases h
 | n,.loc _,h=>by cases n <;> cases h
theorem qbN:∀ {n:Nat} {xs:List D},(∀ x∈xs,dataN n x=true)→noLocs xs=true
 | _,[],_=>rfl
 | n,x::xs,h=>by
  show (noLoc x && noLocs xs)=true
  rw [qce (h x (by simp)),qbN (n:=n) fun y hy=>h y (by simp [hy])]
  rfl
end
theorem qaO {m:Mem} {d:D} (h:tyOk d=true):view m d=d:=by
 cases d <;> first | rfl | cases h
theorem qiU {n:Nat} {xs:List D} (h:dataN (n+1) (.lst xs)=true):∀ x∈xs,dataN n x=true:=fun x hx=>wag.mp (show xs.all (dataN n)=true from h) x hx
theorem qcQ {n:Nat} {xs:List D} (h:dataN (n+1) (.tup xs)=true):∀ x∈xs,dataN n x=true:=fun x hx=>wag.mp (show xs.all (dataN n)=true from h) x hx
def strOf:D→Option (List Nat)
 | .str s=>some s.cps.toList
 | _=>none
theorem qbe {d:D} {l:List Nat} (h:strOf d=some l):d=tx l:=by
 cases d with
 | str s=>
  obtain ⟨a⟩:=s
  have h:some a.toList=some l:=h
  cases h
  simp
 | _=>cases h
@[simp] theorem qnv (l:List Nat):strOf (tx l)=some l:=nr rfl
theorem qm7 {d:D} (h:tyOk d=true):dIsInst [d,.ty "str"]=some (.bl (strOf d).isSome):=by
 rw [qbs (by decide)]
 cases d <;> first | (cases h; done) | rfl | simp [tyIs,strOf]
def isTup:D→Bool
 | .tup _=>true
 | _=>false
def isLst:D→Bool
 | .lst _=>true
 | _=>false
theorem qe6 {d:D} (h:tyOk d=true):dIsInst [d,.ty "tuple"]=some (.bl (isTup d)):=by
 rw [qbs (by decide)]
 cases d <;> first | (cases h; done) | rfl | simp [tyIs,isTup]
theorem qm8 {d:D} (h:tyOk d=true):dIsInst [d,.ty "list"]=some (.bl (isLst d)):=by
 rw [qbs (by decide)]
 cases d <;> first | (cases h; done) | rfl | simp [tyIs,isLst]
theorem qjA (a b:List Nat):((⟨a.toArray⟩:PySem.Str) == ⟨b.toArray⟩)=decide (a=b):=by
 rw [wa1,beq_iff_eq,decide_eq_true_iff]
 constructor
 ·intro h
  injection h with h
  simpa using h
 ·rintro rfl
  rfl
theorem qct (a b:List Nat):eqvD (tx a) (tx b)=decide (a=b):=qjA a b
theorem qjB (a b:List Nat):dEq (tx a) (tx b)=some (decide (a=b)):=by
 rw [qlS,qjA]
theorem qhs {l:List Nat} (h:l.length≤16777216):dLen [tx l]=some (.int (l.length:Nat)):=by
 rw [qlR (by rw [qcq]; exact h),qcq]
theorem qdx (l:List (List Nat)):isData (.lst (l.map tx))=true:=qbc fun x hx=>by
 obtain ⟨c,_,rfl⟩:=wae.mp hx
 rfl
theorem qdd (c:List Nat) (l:List (List Nat)):dIn (tx c) (.lst (l.map tx))=some (decide (c∈l)):=by
 show (if isData (tx c)=true∧isData (.lst (l.map tx))=true then some ((l.map tx).any fun y=>eqvD y (tx c)) else none)=_
 rw [if_pos ⟨rfl,qdx l⟩,List.any_map]
 congr 1
 rw [wa1,List.any_eq_true,decide_eq_true_iff]
 simp only [Function.comp_apply,qct,decide_eq_true_iff]
 exact ⟨fun ⟨x,h1,h2⟩=>h2 ▸ h1,fun h=>⟨c,h,rfl⟩⟩
theorem qde {g:T} {e:E} {ρ:Ev} {m:Mem} (f:Nat→D):∀ (cs:List Nat) (acc:List D),(∀ c∈cs,∃ ρ',g (sg c) ρ=some ρ'∧e ρ' m = .ok (f c) m)→acc.length+cs.length≤16777216→compL g tYes e ρ (cs.map sg) acc m = .ok (acc++cs.map f) m
 | [],acc,_,_=>by simp
 | c::cs,acc,h,hl=>by
  obtain ⟨ρ',h1,h2⟩:=h c (by simp)
  rw [wab] at hl
  rw [wah,qb8,h1]
  have hlen:acc.length < LN:=by
   show _ < 16777216
   omega
  have ih:=qde (g:=g) (e:=e) (ρ:=ρ) (m:=m) f cs (acc++[f c]) (fun x hx=>h x (by simp [hx])) (by simp; omega)
  simp -implicitDefEqProofs only [qdu,h2,hlen,if_true,ih]
  simp
theorem qdy {α:Type} (p:α→Bool):∀ l:List α,dBools (l.map fun c=>.bl (p c))=some (l.map p)
 | []=>rfl
 | c::l=>by
  show (dBools (l.map fun c=>.bl (p c))).map (p c :: ·)=_
  rw [qdy p l]
  rfl
theorem qb0 {α:Type} (p:α→Bool) (l:List α):dAll [.lst (l.map fun c=>.bl (p c))]=some (.bl (l.all p)):=by
 show (dBools (l.map fun c=>.bl (p c))).map _=_
 rw [qdy]
 simp [List.all_map,Function.comp_def]
theorem qcf {α:Type} [DecidableEq α] {x:α}:∀ {l:List α},x∈dedupL l↔x∈l
 | []=>Iff.rfl
 | y::l=>by
  unfold dedupL
  by_cases h:y∈l
  ·rw [if_pos h,qcf,wat]
   constructor
   ·exact .inr
   ·rintro (rfl | h2)
    ·exact h
    ·exact h2
  ·rw [if_neg h,wat,wat,qcf]
theorem qbw {α:Type} [DecidableEq α]:∀ l:List α,(dedupL l).Nodup
 | []=>.nil
 | y::l=>by
  unfold dedupL
  by_cases h:y∈l
  ·rw [if_pos h]
   exact qbw l
  ·rw [if_neg h]
   exact wa2.mpr ⟨fun z=>h (qcf.mp z),qbw l⟩
theorem qdf {α:Type} [DecidableEq α]:∀ {l:List α},l.Nodup→dedupL l=l
 | [],_=>rfl
 | y::l,h=>by
  unfold dedupL
  rw [if_neg (wa2.mp h).1,qdf (wa2.mp h).2]
theorem qdg {α:Type} [DecidableEq α]:∀ l:List α,(dedupL l).length≤l.length
 | []=>waL _
 | y::l=>by
  unfold dedupL
  have:=qdg l
  by_cases h:y∈l
  ·rw [if_pos h,wab]; omega
  ·rw [if_neg h,wab,wab]; omega
theorem qdz {α:Type} [DecidableEq α]:∀ {l:List α},(dedupL l).length=l.length→l.Nodup
 | [],_=>.nil
 | y::l,h=>by
  unfold dedupL at h
  have:=qdg l
  by_cases hy:y∈l
  ·rw [if_pos hy,wab] at h; omega
  ·rw [if_neg hy,wab,wab] at h
   exact wa2.mpr ⟨hy,qdz (by omega)⟩
theorem qbB {α β:Type} [DecidableEq α] [DecidableEq β] (f:α→β) (hf:∀ a b,f a=f b→a=b):∀ l:List α,dedupL (l.map f)=(dedupL l).map f
 | []=>rfl
 | y::l=>by
  rw [wah]
  unfold dedupL
  by_cases h:y∈l
  ·rw [if_pos h,if_pos (wae.mpr ⟨y,h,rfl⟩),qbB f hf l]
  ·rw [if_neg h,if_neg (fun z=>by
    obtain ⟨x,hx,e⟩:=wae.mp z
    exact h (hf _ _ e ▸ hx)),qbB f hf l,wah]
theorem qjC (a b:Nat) (h:PySem.Str.mk #[a]=PySem.Str.mk #[b]):a=b:=by
 injection h with h
 simpa using h
theorem qfS (cs:List Nat):dStrs (cs.map sg)=some (cs.map fun c=>PySem.Str.mk #[c]):=by
 have e:cs.map sg=(cs.map fun c=>PySem.Str.mk #[c]).map D.str:=by rw [waT]; rfl
 rw [e,qc8]
theorem qgh {l:List Nat} (h:l.length < 4000):dLenSet (tx l)=some (.int ((dedupL l).length:Nat)):=by
 unfold dLenSet
 rw [qbY,waK,qfS]
 show (if (l.map fun c=>PySem.Str.mk #[c]).length < 4000 then some (D.int ((dedupL (l.map fun c=>PySem.Str.mk #[c])).length:Nat)) else none)=_
 rw [if_pos (by rw [waa]; exact h),qbB _ qjC,waa]
theorem qdm {x:D} {l:List Nat} (hx:dItems x=some (l.map sg)) (h:l.length < 4000):dSortSet x=some ((srt (dedupL l)).map sg):=by
 unfold dSortSet
 rw [hx,waK,qfS]
 show (if (l.map fun c=>PySem.Str.mk #[c]).length < 4000 then some (((dedupL (l.map fun c=>PySem.Str.mk #[c])).mergeSort leS).map D.str) else none)=_
 rw [if_pos (by rw [waa]; exact h),qbB _ qjC,srt,← List.map_mergeSort (f:=fun c=>PySem.Str.mk #[c]) (r:=fun a b=>decide (a≤b)) (fun a _ b _=>?_),waT]
 ·rfl
 ·show decide (a≤b)=decide ([a]≤[b])
  rw [decide_eq_decide]
  exact (le1 a b).symm
theorem qgi (l:List Nat):(srt l).Pairwise (·≤·):=by
 have:=wbj (le:=fun a b:Nat=>decide (a≤b)) (fun a b c h1 h2=>by simp at *; omega) (fun a b=>by simp; omega) l
 exact this.imp fun h=>by simpa using h
theorem qcR {l:List Nat} (h:l.Pairwise (· < ·)):l.Nodup:=by
 rw [waV]
 exact h.imp fun h=>wbt h
theorem qk4 {l:List Nat}:l=srt (dedupL l)↔l.Pairwise (· < ·):=by
 constructor
 ·intro e
  have h1:=qgi (dedupL l)
  have h2:(srt (dedupL l)).Nodup:=(qiq _).nodup_iff.mpr (qbw l)
  rw [← e] at h1 h2
  rw [waV] at h2
  exact (h1.and h2).imp fun h=>Nat.lt_of_le_of_ne h.1 h.2
 ·intro h
  rw [qdf (qcR h)]
  refine (List.mergeSort_of_pairwise ?_).symm
  exact h.imp fun h=>by simp; omega
theorem qb1 (a b:D):dIx (.tup [a,b]) (.int 0)=some a:=rfl
theorem qdA (a b:D):dIx (.tup [a,b]) (.int 1)=some b:=rfl
theorem qn1 {n:Nat} {xs:List D} {a0:Option D} {r:Ev} {m:Mem} (h:m[n]? = some (.lst xs)):frzAt 1 (a0::some (.loc n)::r) m = .nx (a0::some (.lst xs)::r) (m.set n .dead):=by
 unfold frzAt
 simp -implicitDefEqProofs only [waQ,waI,h,waD,waE]
theorem qau (c:PySem.Str) (ρ:Ev) (m:Mem):sRaise c ρ m = .exc (.exc c []) ρ m:=rfl
theorem sW_a (b:S) (vs:List Nat) (ρ:Ev) (m:Mem):sW b vs ρ m=match b ρ m with
 | .nx ρ m=>.nx (wipeE ρ vs) m
 | .ct ρ m=>.ct (wipeE ρ vs) m
 | .bk ρ m=>.bk (wipeE ρ vs) m
 | o=>o:=rfl
theorem qk5 {a b:List D} (h:a.length+b.length≤16777216):dAdd (.lst a) (.lst b)=some (.lst (a++b)):=if_pos h
theorem qa3 {d:D} (h:isTup d=true):∃ xs,d = .tup xs:=by
 cases d <;> first | exact ⟨_,rfl⟩ | cases h
theorem qht {d:D} (h:isLst d=true):∃ xs,d = .lst xs:=by
 cases d <;> first | exact ⟨_,rfl⟩ | cases h
def cRest:List Nat:=[114,101,115,116]
theorem qhu:PySem.Str.ofString "rest" = ⟨cRest.toArray⟩:=by decide +kernel
theorem qjD (s:PySem.Str):D.str s=tx s.cps.toList:=by
 obtain ⟨a⟩:=s
 simp
theorem all_cons {α:Type} {P:α→Prop} {x:α} {l:List α} (h:P x) (t:∀ y∈l,P y):∀ y∈x::l,P y:=fun y hy=>by
 rcases wat.mp hy with rfl | hy
 ·exact h
 ·exact t y hy
theorem qhv {α:Type} {P:α→Prop}:∀ y∈([]:List α),P y:=fun _ h=>nomatch h
def cEdge:List Nat:=[101,100,103,101]
theorem qk6:PySem.Str.ofString "edge" = ⟨cEdge.toArray⟩:=by decide +kernel
def lett:List Nat:=(List.range 26).map (97 + ·)
theorem qb2 {α:Type} {g:T} {e:E} {ρ:Ev} {m:Mem} (i f:α→D):∀ (xs:List α) (acc:List D),(∀ x∈xs,∃ ρ',g (i x) ρ=some ρ'∧e ρ' m = .ok (f x) m)→acc.length+xs.length≤16777216→compL g tYes e ρ (xs.map i) acc m = .ok (acc++xs.map f) m
 | [],acc,_,_=>by simp
 | x::xs,acc,h,hl=>by
  obtain ⟨ρ',h1,h2⟩:=h x (by simp)
  rw [wab] at hl
  rw [wah,qb8,h1]
  have hlen:acc.length < LN:=by
   show _ < 16777216
   omega
  have ih:=qb2 (g:=g) (e:=e) (ρ:=ρ) (m:=m) i f xs (acc++[f x]) (fun y hy=>h y (by simp [hy])) (by simp; omega)
  simp -implicitDefEqProofs only [qdu,h2,hlen,if_true,ih]
  simp
theorem qd3 {α:Type} (f:α→Int) (l:List α):dSum [.lst (l.map fun x=>.int (f x))]=some (.int (l.map f).sum):=by
 have h:∀ l:List α,dInts (l.map fun x=>.int (f x))=some (l.map f):=fun l=>by
  induction l with
  | nil=>rfl
  | cons x l ih=>
   show (dInts (l.map fun x=>.int (f x))).map (f x :: ·)=_
   rw [ih]
   rfl
 show (dInts (l.map fun x=>.int (f x))).map _=_
 rw [h]
 rfl
theorem qdh {d:D} (m:Mem) (h:tyOk d=true):zaG [d] m = .ok (.bl (strOf d).isSome) m:=by
 unfold zaG zdk
 simp_arith [qaO h,qm7 h]
def goodN (l:List Nat):Bool:=decide (1≤l.length) && (decide (l.length≤8) && (!decide (l=cRest) && (!decide (l=cEdge) && l.all fun c=>decide (c∈lett))))
def goodS (l:List Nat):Bool:=!decide (l=[]) && (l.all (fun c=>decide (c∈pln)) && decide (l.Pairwise (· < ·)))
def gN (d:D):Bool:=match strOf d with
 | some l=>goodN l
 | none=>false
def gS (d:D):Bool:=match strOf d with
 | some l=>goodS l
 | none=>false
theorem qfT (l:List Nat):dIn (tx l) (.tup [tx cRest,tx cEdge])=some (decide (l=cRest) || decide (l=cEdge)):=by
 have h:dIn (tx l) (.tup [tx cRest,tx cEdge])=some (eqvD (tx cRest) (tx l) || (eqvD (tx cEdge) (tx l) || false)):=by
  show (if flatB (tx l)=true∧[tx cRest,tx cEdge].all flatB=true then some ([tx cRest,tx cEdge].any fun y=>eqvD y (tx l)) else none)=_
  rw [if_pos ⟨rfl,rfl⟩]
  rfl
 rw [h,qct,qct,Bool.or_false]
 congr 2
 ·rw [decide_eq_decide]; exact eq_comm
 ·rw [decide_eq_decide]; exact eq_comm
theorem qe7 {d:D} (h:tyOk d=true) (hn:noLoc d=true) (hl:∀ l,strOf d=some l→l.length≤3900):zaH [d] [] = .ok (.bl (gN d)) []:=by
 have c1:∀ ρ m,eCall false 1 zaG (lCons (eVar 0) lNil) (some d::ρ) m = .ok (.bl (strOf d).isSome) m:=fun ρ m=>qcc (x:=d) rfl hn ⟨[],qdh [] h⟩ rfl
 unfold zaH zbW
 cases hs:strOf d with
 | none=>
  rw [hs] at c1
  have hg:gN d=false:=by unfold gN; rw [hs]
  rw [hg]
  simp_arith [c1,wbk]
 | some l=>
  obtain rfl:=qbe hs
  rw [hs] at c1
  have hl:=hl l hs
  have hg:gN (tx l)=goodN l:=rfl
  rw [hg,goodN]
  have k1:=qhs (l:=l) (by omega)
  have i1:decide ((1:Int)≤(l.length:Int))=decide (1≤l.length):=by rw [decide_eq_decide]; omega
  have i8:decide ((l.length:Int)≤8)=decide (l.length≤8):=by rw [decide_eq_decide]; omega
  have cm:∀ ρ m,compL (gName 1) tYes zaV (some (tx l)::none::ρ) (l.map sg) [] m = .ok (l.map fun c=>.bl (decide (c∈lett))) m:=fun ρ m=>by
   have:=qde (g:=gName 1) (e:=zaV) (ρ:=some (tx l)::none::ρ) (m:=m) (fun c=>.bl (decide (c∈lett))) l [] (fun c _=>⟨_,rfl,by
    unfold zaV
    rw [qdv]
    simp_arith [qfI]
    rfl⟩) (by simp; omega)
   rw [this,wax]
  have da:=qb0 (fun c=>decide (c∈lett)) l
  simp_arith [c1,wa3,tChain,k1,i1,qhu,qk6,qfT,cm,da]
  cases decide (1≤l.length) <;> simp_arith [wav,wam,i8]
  cases decide (l.length≤8) <;> simp_arith [wav,wam,qfT]
  cases decide (l=cRest) <;> cases decide (l=cEdge) <;> simp_arith [wav,wam,Bool.or_false,wbE,cm,da]
theorem qe8 {d:D} (h:tyOk d=true) (hn:noLoc d=true) (hl:∀ l,strOf d=some l→l.length≤3900):zbf [d] [] = .ok (.bl (gS d)) []:=by
 have c1:∀ ρ m,eCall false 1 zaG (lCons (eVar 0) lNil) (some d::ρ) m = .ok (.bl (strOf d).isSome) m:=fun ρ m=>qcc (x:=d) rfl hn ⟨[],qdh [] h⟩ rfl
 unfold zbf zcX
 cases hs:strOf d with
 | none=>
  rw [hs] at c1
  have hg:gS d=false:=by unfold gS; rw [hs]
  rw [hg]
  simp_arith [c1,wbk]
 | some l=>
  obtain rfl:=qbe hs
  rw [hs] at c1
  have hl:=hl l hs
  have hg:gS (tx l)=goodS l:=rfl
  rw [hg,goodS]
  have cm:∀ ρ m,compL (gName 1) tYes zbD (some (tx l)::none::ρ) (l.map sg) [] m = .ok (l.map fun c=>.bl (decide (c∈pln))) m:=fun ρ m=>by
   have:=qde (g:=gName 1) (e:=zbD) (ρ:=some (tx l)::none::ρ) (m:=m) (fun c=>.bl (decide (c∈pln))) l [] (fun c _=>⟨_,rfl,by
    unfold zbD
    rw [qfG]
    simp_arith [qfI]⟩) (by simp; omega)
   rw [this,wax]
  have da:=qb0 (fun c=>decide (c∈pln)) l
  have ds:=qdm (x:=tx l) (l:=l) rfl (by omega)
  have hj:=qg5 (cs:=srt (dedupL l)) (by rw [qgb]; have:=qdg l; omega)
  have es:decide (l=srt (dedupL l))=decide (l.Pairwise (· < ·)):=by rw [decide_eq_decide]; exact qk4
  have hj2:=hj
  rw [e0] at hj2
  simp_arith [c1,wa3,e0,qjB,cm,da,eSortSet,ds,hj2,es]
  cases decide (l=[]) <;> simp_arith [wav,wam,cm,da]
  cases (l.all fun c=>decide (c∈pln)) <;> simp_arith [wav,wam,eSortSet,ds,hj2,qjB,es]
def pairT:D→Option (List Nat × List Nat)
 | .tup [.str n,.str t]=>some (n.cps.toList,t.cps.toList)
 | _=>none
theorem qhw (a b:D):pairT (.tup [a,b])=match strOf a,strOf b with
  | some n,some t=>some (n,t)
  | _,_=>none:=by
 cases a <;> cases b <;> rfl
theorem qhx {d:D} (h:isTup d=false):pairT d=none:=by
 cases d <;> first | rfl | cases h
theorem qhy {xs:List D} (h:xs.length≠2):pairT (.tup xs)=none:=by
 match xs,h with
 | [],_=>rfl
 | [a],_=>cases a <;> rfl
 | [a,b],h=>exact absurd rfl h
 | a::b::c::r,_=>cases a <;> cases b <;> rfl
def okStep (q:List Nat→List Nat→Bool) (ns:List (List Nat)) (s:List Nat) (d:D):Option (List Nat × List Nat):=match pairT d with
 | some (n,t)=>if (goodN n && (goodS t && (!decide (n∈ns) && q t s)))=true then some (n,t) else none
 | none=>none
def scanK (q:List Nat→List Nat→Bool):List (List Nat)→List Nat→List D→Option (List (List Nat) × List Nat)
 | ns,s,[]=>some (ns,s)
 | ns,s,d::ds=>match okStep q ns s d with
  | some (n,t)=>scanK q (ns++[n]) (s++t) ds
  | none=>none
structure AdI (d:D):Prop where
 da:dataN 15 d=true
 sz:∀ xs,d = .tup xs→∀ x∈xs,∀ l,strOf x=some l→l.length≤3900
theorem AdI.el {xs:List D} (A:AdI (.tup xs)) {x:D} (hx:x∈xs):tyOk x=true∧noLoc x=true∧∀ l,strOf x=some l→l.length≤3900:=
 ⟨qcd (qcQ A.da x hx),qce (qcQ A.da x hx),A.sz xs rfl x hx⟩
theorem qhz {t:List Nat} (h:goodS t=true):t.length≤94:=by
 have nl:∀ {l s:List Nat},l.Nodup→(∀ x∈l,x∈s)→l.length≤s.length:=by
  intro l
  induction l with
  | nil=>intro s _ _; exact waN _
  | cons x l ih=>
   intro s h g
   have hx:=g x (by simp)
   obtain ⟨h1,h2⟩:=wa2.mp h
   have:=ih (s:=s.erase x) h2 fun y hy=>(List.mem_erase_of_ne (fun e:y=x=>h1 (by rw [← e]; exact hy))).mpr (g y (waJ _ hy))
   rw [List.length_erase_of_mem hx] at this
   have:=List.length_pos_of_mem hx
   rw [wab]
   omega
 unfold goodS at h
 rw [wac,wac,decide_eq_true_iff,wag] at h
 have:=nl (qcR h.2.2) fun x hx=>of_decide_eq_true (h.2.1 x hx)
 rwa [qko] at this
theorem qhA {d:D} (A:AdI d) (ns:List (List Nat)) (s:List Nat) (a0:Option D) (hs:s.length+94≤16777216) (hn:ns.length < 16777216) :
  match okStep (fun _ _=>true) ns s d with
  | some (n,t)=>t.length≤94∧zab [a0,some (.loc 0),some (tx s),some d] [.lst (ns.map tx)] = .nx [a0,some (.loc 0),some (tx (s++t)),none] [.lst ((ns++[n]).map tx)]
  | none=>∃ ρ' m',zab [a0,some (.loc 0),some (tx s),some d] [.lst (ns.map tx)] = .exc (.exc "NoKinds" []) ρ' m':=by
 have hty:=qcd A.da
 have hi:=qe6 hty
 cases ht:isTup d with
 | false=>
  rw [ht] at hi
  have ho:okStep (fun _ _=>true) ns s d=none:=by unfold okStep; rw [qhx ht]
  rw [ho]
  refine ⟨[a0,some (.loc 0),some (tx s),some d],[.lst (ns.map tx)],?_⟩
  unfold zab
  simp_arith [sW_a,qau,qaO hty,hi]
 | true=>
  obtain ⟨xs,rfl⟩:=qa3 ht
  rw [ht] at hi
  by_cases hl:xs.length=2
  case neg=>
   have ho:okStep (fun _ _=>true) ns s (.tup xs)=none:=by unfold okStep; rw [qhy hl]
   rw [ho]
   refine ⟨[a0,some (.loc 0),some (tx s),some (.tup xs)],[.lst (ns.map tx)],?_⟩
   have hz:((xs.length:Int) != 2)=true:=by simp; omega
   unfold zab
   simp_arith [sW_a,qau,hi,hz]
  case pos=>
   match xs,hl with
   | [a,b],_=>
    obtain ⟨ta,na,la⟩:=A.el (x:=a) (by simp)
    obtain ⟨tb,nb,lb⟩:=A.el (x:=b) (by simp)
    have ca:∀ ρ m,eCall false 1 zaH (lCons (eOp dIx (eVar 3) (eC (.int 0))) lNil) (a0::some (.loc 0)::some (tx s)::some (.tup [a,b])::ρ) m = .ok (.bl (gN a)) m:=fun ρ m=>
     qcc (x:=a) (by simp_arith [qb1]) na ⟨[],qe7 ta na fun l h=>wbr (la l h) (by omega)⟩ rfl
    have cb:∀ ρ m,eCall false 1 zbf (lCons (eOp dIx (eVar 3) (eC (.int 1))) lNil) (a0::some (.loc 0)::some (tx s)::some (.tup [a,b])::ρ) m = .ok (.bl (gS b)) m:=fun ρ m=>
     qcc (x:=b) (by simp_arith [qdA]) nb ⟨[],qe8 tb nb fun l h=>wbr (lb l h) (by omega)⟩ rfl
    have hz:(((0:Nat)+1+1:Nat):Int)=2:=rfl
    have hz2:(((2:Nat):Int) != 2)=false:=rfl
    have no:∀ {o:O},(∃ ρ' m',o = .exc (.exc "NoKinds" []) ρ' m')→okStep (fun _ _=>true) ns s (.tup [a,b])=none→match okStep (fun _ _=>true) ns s (.tup [a,b]) with
      | some (n,t)=>t.length≤94∧o = .nx [a0,some (.loc 0),some (tx (s++t)),none] [.lst ((ns++[n]).map tx)]
      | none=>∃ ρ' m',o = .exc (.exc "NoKinds" []) ρ' m':=fun {o} h e=>by rw [e]; exact h
    have hok:okStep (fun _ _=>true) ns s (.tup [a,b])=(match strOf a,strOf b with
      | some n,some t=>if (goodN n && (goodS t && (!decide (n∈ns) && true)))=true then some (n,t) else none
      | _,_=>none):=by
     unfold okStep
     rw [qhw]
     cases strOf a <;> cases strOf b <;> rfl
    cases hA:strOf a with
    | none=>
     have ga:gN a=false:=by unfold gN; rw [hA]
     rw [ga] at ca
     refine no ⟨[a0,some (.loc 0),some (tx s),some (.tup [a,b])],[.lst (ns.map tx)],?_⟩ (by rw [hok,hA])
     unfold zab
     simp_arith [sW_a,qau,hi,hz2,ca]
    | some n=>
     obtain rfl:=qbe hA
     have ga:gN (tx n)=goodN n:=rfl
     rw [ga] at ca
     cases hgn:goodN n with
     | false=>
      rw [hgn] at ca
      refine no ⟨[a0,some (.loc 0),some (tx s),some (.tup [tx n,b])],[.lst (ns.map tx)],?_⟩ (by
       rw [hok,hA]
       cases strOf b with
       | none=>rfl
       | some t=>
        show (if (goodN n && (goodS t && (!decide (n∈ns) && true)))=true then _ else _)=none
        rw [hgn]
        rfl)
      unfold zab
      simp_arith [sW_a,qau,hi,hz2,ca]
     | true=>
      rw [hgn] at ca
      cases hm:decide (n∈ns) with
      | true=>
       refine no ⟨[a0,some (.loc 0),some (tx s),some (.tup [tx n,b])],[.lst (ns.map tx)],?_⟩ (by
        rw [hok,hA]
        cases strOf b with
        | none=>rfl
        | some t=>
         show (if (goodN n && (goodS t && (!decide (n∈ns) && true)))=true then _ else _)=none
         rw [hm]
         simp)
       unfold zab
       simp_arith [sW_a,qau,hi,hz2,ca,qb1,qdd,hm]
      | false=>
       cases hB:strOf b with
       | none=>
        have gb:gS b=false:=by unfold gS; rw [hB]
        rw [gb] at cb
        refine no ⟨[a0,some (.loc 0),some (tx s),some (.tup [tx n,b])],[.lst (ns.map tx)],?_⟩ (by rw [hok,hA,hB])
        unfold zab
        simp_arith [sW_a,qau,hi,hz2,ca,qb1,qdd,hm,cb]
       | some t=>
        obtain rfl:=qbe hB
        have gb:gS (tx t)=goodS t:=rfl
        rw [gb] at cb
        cases hgs:goodS t with
        | false=>
         rw [hgs] at cb
         refine no ⟨[a0,some (.loc 0),some (tx s),some (.tup [tx n,tx t])],[.lst (ns.map tx)],?_⟩ (by
          rw [hok,hA,hB]
          show (if (goodN n && (goodS t && (!decide (n∈ns) && true)))=true then _ else _)=none
          rw [hgs]
          simp)
         unfold zab
         simp_arith [sW_a,qau,hi,hz2,ca,qb1,qdd,hm,cb]
        | true=>
         rw [hgs] at cb
         have hok2:okStep (fun _ _=>true) ns s (.tup [tx n,tx t])=some (n,t):=by
          rw [hok,hA,hB]
          show (if (goodN n && (goodS t && (!decide (n∈ns) && true)))=true then _ else _)=_
          rw [hgn,hgs,hm]
          rfl
         have hlt:=qhz hgs
         rw [hok2]
         refine ⟨hlt,?_⟩
         have ha:=qeW (a:=s) (b:=t) (by omega)
         have hl2:(ns.map tx).length < 16777216:=by rw [waa]; exact hn
         unfold zab
         simp_arith [sW_a,qau,hi,hz2,ca,qb1,qdA,qdd,hm,cb,ha,hl2,waP,waa,hn]
theorem qew (a0:Option D):∀ (xs:List D) (ns:List (List Nat)) (s:List Nat) (x:Option D),(∀ d∈xs,AdI d)→s.length+94 * xs.length≤3600→ns.length+xs.length≤1000 →
  match scanK (fun _ _=>true) ns s xs with
  | some (ns',s')=>s'.length≤3600∧∃ x',forL (gName 3) zab xs [a0,some (.loc 0),some (tx s),x] [.lst (ns.map tx)] = .nx [a0,some (.loc 0),some (tx s'),x'] [.lst (ns'.map tx)]
  | none=>∃ ρ' m',forL (gName 3) zab xs [a0,some (.loc 0),some (tx s),x] [.lst (ns.map tx)] = .exc (.exc "NoKinds" []) ρ' m'
 | [],ns,s,x,_,hs,_=>⟨by simpa using hs,x,rfl⟩
 | d::ds,ns,s,x,A,hs,hn=>by
  rw [wab] at hs hn
  have st:=qhA (A d (by simp)) ns s a0 (by omega) (by omega)
  rw [qaL]
  unfold scanK
  cases ho:okStep (fun _ _=>true) ns s d with
  | none=>
   rw [ho] at st
   obtain ⟨ρ',m',e⟩:=st
   refine ⟨ρ',m',?_⟩
   simp -implicitDefEqProofs only [qbi,waD,waE,e]
  | some p=>
   obtain ⟨n,t⟩:=p
   rw [ho] at st
   obtain ⟨ht,e⟩:=st
   have ih:=qew a0 ds (ns++[n]) (s++t) none (fun y hy=>A y (by simp [hy])) (by rw [wao]; omega) (by rw [wao,wbc]; omega)
   simp -implicitDefEqProofs only [qbi,waD,waE,e]
   exact ih
def isEx (r:R D):Prop:=∃ m',r = .exc (.exc "NoKinds" []) m'
def scanB (xs:List D):Bool:=match scanK (fun _ _=>true) [] [] xs with
 | some (_,s)=>decide (s.Nodup) && decide (s.length≤60)
 | none=>false
def okB:D→Bool
 | .lst xs=>decide (xs.length≤6) && scanB xs
 | _=>false
theorem qk7 {d:D} (h:isLst d=false):okB d=false:=by
 cases d <;> first | rfl | cases h
structure Ad (d:D):Prop where
 da:isData d=true∨d = .dct []
 it:∀ xs,d = .lst xs→∀ x∈xs,AdI x
theorem Ad.ty {d:D} (A:Ad d):tyOk d=true:=by
 rcases A.da with h | rfl
 ·exact qcd h
 ·rfl
theorem qm9 {d:D} (A:Ad d):(okB d=true→∃ m',zaf [d] [] = .ok .non m')∧(okB d=false→isEx (zaf [d] [])):=by
 have hty:=A.ty
 have hi:=qm8 hty
 unfold zaf zbN
 cases hd:isLst d with
 | false=>
  rw [hd] at hi
  rw [qk7 hd]
  refine ⟨fun h=>(by cases h),fun _=>⟨[],?_⟩⟩
  simp_arith [qaO hty,hi,qau]
 | true=>
  obtain ⟨xs,rfl⟩:=qht hd
  rw [hd] at hi
  have hok:okB (.lst xs)=(decide (xs.length≤6) && scanB xs):=rfl
  rw [hok]
  by_cases h6:xs.length≤6
  case neg=>
   have c6:decide ((6:Int) < (xs.length:Nat))=true:=by rw [decide_eq_true_iff]; omega
   rw [decide_eq_false h6,wav]
   refine ⟨fun h=>(by cases h),fun _=>⟨[],?_⟩⟩
   simp_arith [hi,qau,c6]
  case pos=>
   have c6:decide ((6:Int) < (xs.length:Nat))=false:=by rw [decide_eq_false_iff_not]; omega
   rw [decide_eq_true h6,wam]
   have lp:=qew (some (.lst xs)) xs [] [] none (A.it xs rfl) (by rw [was]; omega) (by rw [was]; omega)
   cases hsc:scanK (fun _ _=>true) [] [] xs with
   | none=>
    rw [hsc] at lp
    obtain ⟨ρ',m',e⟩:=lp
    rw [wa8] at e
    have hb:scanB xs=false:=by unfold scanB; rw [hsc]
    rw [hb]
    refine ⟨fun h=>(by cases h),fun _=>⟨m',?_⟩⟩
    simp_arith [hi,qau,c6,e0,e]
   | some p=>
    obtain ⟨ns',s'⟩:=p
    rw [hsc] at lp
    obtain ⟨hl,x',e⟩:=lp
    rw [wa8] at e
    have f1:=fun r=>qn1 (n:=0) (xs:=ns'.map tx) (a0:=some (.lst xs)) (r:=r) (m:=[.lst (ns'.map tx)]) rfl
    have k1:=qhs (l:=s') (by omega)
    have k2:=qgh (l:=s') (by omega)
    have c1:(((dedupL s').length:Int) != (s'.length:Int)) = !decide s'.Nodup:=by
     by_cases h:s'.Nodup
     ·rw [qdf h,decide_eq_true h]; simp
     ·rw [decide_eq_false h]
      have:(dedupL s').length≠s'.length:=fun z=>h (qdz z)
      simp
      omega
    have c2:decide ((60:Int) < (s'.length:Nat)) = !decide (s'.length≤60):=by
     by_cases h:s'.length≤60
     ·rw [decide_eq_true h]; simp; omega
     ·rw [decide_eq_false h]; simp; omega
    have hb:scanB xs=(decide s'.Nodup && decide (s'.length≤60)):=by unfold scanB; rw [hsc]
    rw [hb]
    cases hb1:decide s'.Nodup with
    | false=>
     refine ⟨fun h=>(by cases h),fun _=>⟨[.dead],?_⟩⟩
     simp_arith [hi,qau,c6,e0,e,f1,qeM,k1,k2,c1,hb1]
    | true=>
     cases hb2:decide (s'.length≤60) with
     | false=>
      refine ⟨fun h=>(by cases h),fun _=>⟨[.dead],?_⟩⟩
      simp_arith [hi,qau,c6,e0,e,f1,qeM,k1,k2,c1,c2,hb1,hb2]
     | true=>
      refine ⟨fun _=>⟨[.dead],?_⟩,fun h=>(by cases h)⟩
      simp_arith [hi,qau,c6,e0,e,f1,qeM,k1,k2,c1,c2,hb1,hb2]
theorem qhB {q:List Nat→List Nat→Bool} {ns:List (List Nat)} {s:List Nat} {d:D} {n t:List Nat} (hp:pairT d=some (n,t)) (h1:goodN n=true) (h2:goodS t=true) (h3:n∉ns) (h4:q t s=true):okStep q ns s d=some (n,t):=by
 unfold okStep
 rw [hp]
 show (if (goodN n && (goodS t && (!decide (n∈ns) && q t s)))=true then some (n,t) else none)=_
 rw [h1,h2,h4,decide_eq_false h3]
 rfl
theorem qgj {t:List Nat} (h:goodS t=true):t.Nodup:=by
 unfold goodS at h
 rw [wac,wac,decide_eq_true_iff] at h
 exact qcR h.2.2
theorem qb3 (c:Int) (k:Nat):(nmOf c k).length=nmSz c:=by simp [nmOf]
theorem qe9 (c:Int) (k:Nat) {j:Nat} (h:j < nmSz c):(nmOf c k)[j]? = some (nmLet c k j):=by
 unfold nmOf
 rw [wal,wbp h]
 rfl
theorem qiV (c:Int) (k j:Nat):nmLet c k j∈lett:=by
 unfold nmLet lett
 generalize c / 64+7 * (j:Int) * (j:Int)+5 * (k:Int) * (if (j:Int) == nmAt c then 1 else 0)=z
 exact wae.mpr ⟨(z % 26).toNat,wbm.mpr (by omega),rfl⟩
theorem qhC (c:Int) (k:Nat) {x0 x1 x2 x3:Nat} (hb:nmOf c k=[x0,x1,x2,x3]) :
  nmSz c=4∧nmLet c k 0=x0∧nmLet c k 1=x1∧nmLet c k 2=x2∧nmLet c k 3=x3:=by
 have h4:nmSz c=4:=by rw [← qb3 c k,hb]; rfl
 have g:∀ j,j < 4→[x0,x1,x2,x3][j]? = some (nmLet c k j):=fun j hj=>by rw [← hb,qe9 c k (by omega)]
 have g0:=g 0 (by omega)
 have g1:=g 1 (by omega)
 have g2:=g 2 (by omega)
 have g3:=g 3 (by omega)
 simp at g0 g1 g2 g3
 exact ⟨h4,g0.symm,g1.symm,g2.symm,g3.symm⟩
theorem qhD (c:Int):0≤nmAt c∧nmAt c < (nmSz c:Nat):=by
 have:=qbv c
 unfold nmAt
 exact ⟨wa6 _ (by omega),wa9 _ (by omega)⟩
theorem qcS (c:Int) (k j x:Nat) (h:nmLet c k j=x):((c / 64+7 * (j:Int) * (j:Int)+5 * (k:Int) * (if (j:Int) == nmAt c then 1 else 0)) % 26)=(x:Int) - 97:=by
 unfold nmLet at h
 generalize c / 64+7 * (j:Int) * (j:Int)+5 * (k:Int) * (if (j:Int) == nmAt c then 1 else 0)=z at h ⊢
 have:=wa6 z (b:=26) (by omega)
 omega
theorem qfa (c:Int) (k:Nat) (x:List Nat) (hx:x=cRest∨x=cEdge):nmOf c k≠x:=by
 intro hb
 have go:∀ x0 x1 x2 x3:Nat,nmOf c k=[x0,x1,x2,x3]→(x0=114∧x1=101∧x2=115∧x3=116)∨(x0=101∧x1=100∧x2=103∧x3=101)→False:=by
  intro x0 x1 x2 x3 h hx
  obtain ⟨h4,g0,g1,g2,g3⟩:=qhC c k h
  have a:=qhD c
  rw [h4] at a
  have g0:=qcS c k 0 x0 g0
  have g1:=qcS c k 1 x1 g1
  have g2:=qcS c k 2 x2 g2
  have g3:=qcS c k 3 x3 g3
  generalize nmAt c=t at *
  generalize c / 64=q at *
  have ht:t=0∨t=1∨t=2∨t=3:=by omega
  rcases ht with rfl | rfl | rfl | rfl <;> simp at g0 g1 g2 g3 <;> omega
 rcases hx with rfl | rfl
 ·exact go _ _ _ _ hb (.inl ⟨rfl,rfl,rfl,rfl⟩)
 ·exact go _ _ _ _ hb (.inr ⟨rfl,rfl,rfl,rfl⟩)
theorem qd4 (c:Int) {k j:Nat} (hk:k < 26) (hj:j < 26) (h:nmOf c k=nmOf c j):k=j:=by
 have a:=qhD c
 obtain ⟨t,et⟩:=Int.eq_ofNat_of_zero_le a.1
 have ht:t < nmSz c:=by omega
 have e1:=qe9 c k ht
 rw [h,qe9 c j ht] at e1
 have e1:nmLet c j t=nmLet c k t:=Option.some.inj e1
 unfold nmLet at e1
 have e2:((t:Int) == nmAt c)=true:=by rw [et]; simp
 rw [e2] at e1
 simp at e1
 generalize c / 64+7 * (t:Int) * (t:Int)=q at e1
 omega
theorem qhE (c:Int) (k:Nat):goodN (nmOf c k)=true:=by
 unfold goodN
 have h:=qbv c
 rw [qb3,decide_eq_true h.1,decide_eq_true h.2,decide_eq_false (qfa c k _ (.inl rfl)),decide_eq_false (qfa c k _ (.inr rfl))]
 simp
 intro x hx
 obtain ⟨j,_,rfl⟩:=wae.mp hx
 exact qiV c k j
structure OkK (ks:Kd):Prop where
 nm:∀ p∈ks,goodN p.1.cps.toList=true
 sg:∀ p∈ks,goodS p.2=true
 un:(ks.map fun p=>p.1.cps.toList).Nodup
 dis:ks.Pairwise fun p q=>∀ c∈p.2,c∉q.2
 six:ks.length≤6
 few:(flatK ks).length≤60
theorem qhF:∀ (ks:Kd) (ns:List (List Nat)) (s:List Nat),(∀ p∈ks,goodN p.1.cps.toList=true)→(∀ p∈ks,goodS p.2=true)→(ks.map fun p=>p.1.cps.toList).Nodup→(∀ p∈ks,p.1.cps.toList∉ns)→scanK (fun _ _=>true) ns s (ks.map kdD)=some (ns++ks.map (fun p=>p.1.cps.toList),s++flatK ks)
 | [],ns,s,_,_,_,_=>by simp [scanK,flatK]
 | p::ks,ns,s,h1,h2,h3,h4=>by
  have hp:pairT (kdD p)=some (p.1.cps.toList,p.2):=by
   obtain ⟨a,b⟩:=p
   rfl
  have st:=qhB (q:=fun _ _=>true) (ns:=ns) (s:=s) hp (h1 p (by simp)) (h2 p (by simp)) (h4 p (by simp)) rfl
  rw [wah] at h3
  have h3':=wa2.mp h3
  have ih:=qhF ks (ns++[p.1.cps.toList]) (s++p.2) (fun q hq=>h1 q (by simp [hq])) (fun q hq=>h2 q (by simp [hq])) h3'.2 (fun q hq z=>by
   rcases wau.mp z with z | z
   ·exact h4 q (by simp [hq]) z
   ·have z:=waC.mp z
    exact h3'.1 (wae.mpr ⟨q,hq,z⟩))
  rw [wah]
  show (match okStep (fun _ _=>true) ns s (kdD p) with
   | some (n,t)=>scanK (fun _ _=>true) (ns++[n]) (s++t) (ks.map kdD)
   | none=>none)=_
  rw [st]
  show scanK (fun _ _=>true) (ns++[p.1.cps.toList]) (s++p.2) (ks.map kdD)=_
  rw [ih]
  simp [flatK]
theorem OkK.ok {ks:Kd} (O:OkK ks):okB (.lst (ks.map kdD))=true:=by
 show (decide ((ks.map kdD).length≤6) && scanB (ks.map kdD))=true
 have hl:(ks.map kdD).length≤6:=by rw [waa]; exact O.six
 have nd:(flatK ks).Nodup:=by
  unfold flatK
  rw [waV,List.pairwise_flatten]
  constructor
  ·intro l hl
   obtain ⟨p,hp,rfl⟩:=wae.mp hl
   rw [← waV]
   exact qgj (O.sg p hp)
  ·rw [wbz]
   refine O.dis.imp fun {p q} h x hx y hy e=>?_
   subst e
   exact h x hx hy
 unfold scanB
 rw [qhF ks [] [] O.nm O.sg O.un (by simp),decide_eq_true hl]
 show (decide (([]++flatK ks).Nodup) && decide (([]++flatK ks).length≤60))=true
 rw [wax,decide_eq_true nd,decide_eq_true O.few]
 rfl
def Sm (x:D):Prop:=dataN 14 x=true∧∀ l,strOf x=some l→l.length≤3900
theorem qiW {l:List Nat} (h:l.length≤3900):Sm (tx l):=⟨rfl,fun k e=>by cases e; simpa using h⟩
theorem qfU {a b:D} (ha:Sm a) (hb:Sm b):AdI (.tup [a,b]):=⟨by
 show ([a,b].all (dataN 14))=true
 simp [ha.1,hb.1],fun xs e x hx l h=>by
 cases e
 rcases wat.mp hx with rfl | hx
 ·exact ha.2 l h
 ·rcases wat.mp hx with rfl | hx
  ·exact hb.2 l h
  ·cases hx⟩
theorem Ad.of {xs:List D} (h:∀ x∈xs,AdI x):Ad (.lst xs):=⟨.inl (qbc fun x hx=>(h x hx).da),fun ys e x hx=>by
 cases e
 exact h x hx⟩
theorem Ad.flat {d:D} (h:isData d=true) (hl:isLst d=false):Ad d:=⟨.inl h,fun xs e=>by
 rw [e] at hl
 cases hl⟩
structure SmK (ks:Kd):Prop where
 nm:∀ p∈ks,p.1.cps.toList.length≤100
 sg:∀ p∈ks,p.2.length≤100
 ne:∀ p∈ks,p.2≠[]
 len:ks.length≤100
theorem SmK.it {ks:Kd} (S:SmK ks) {p:Str × List Nat} (hp:p∈ks):AdI (kdD p):=by
 show AdI (.tup [.str p.1,tx p.2])
 rw [qjD]
 exact qfU (qiW (by have:=S.nm p hp; omega)) (qiW (by have:=S.sg p hp; omega))
theorem qfV (g g' : D→D→Option Bool) (a b c:E) (ρ:Ev) (m:Mem):eChain g g' a b c ρ m=(a ρ m).bind fun x m=>(b ρ m).bind fun y m=>
 (R.of m (g (view m x) (view m y))).bind fun k m=>if k=true then (c ρ m).bind fun z m=>.of m ((g' (view m y) (view m z)).map D.bl) else .ok (.bl false) m:=rfl
theorem qaB (g g' : D→D→Option Bool) (a b c:E) (ρ:Ev) (m:Mem):tChain g g' a b c ρ m=(a ρ m).bind fun x m=>(b ρ m).bind fun y m=>
 (R.of m (g (view m x) (view m y))).bind fun k m=>if k=true then (c ρ m).bind fun z m=>.of m (g' (view m y) (view m z)) else .ok false m:=rfl
def wholeB:D→Bool
 | .int _=>true
 | _=>false
def intB:D→Bool
 | .int _=>true
 | .bl _=>true
 | _=>false
def boolB:D→Bool
 | .bl _=>true
 | _=>false
theorem qn2 {d:D} (h:tyOk d=true):dIsInst [d,.ty "int"]=some (.bl (intB d)):=by
 rw [qbs (by decide)]
 cases d <;> first | (cases h; done) | rfl | simp [tyIs,intB]
theorem qna {d:D} (h:tyOk d=true):dIsInst [d,.ty "bool"]=some (.bl (boolB d)):=by
 rw [qbs (by decide)]
 cases d <;> first | (cases h; done) | rfl | simp [tyIs,boolB]
def mostB (i:Int):D→Bool
 | .non=>true
 | .int j=>decide ((if i > 1 then i else 1)≤j) && decide (j≤6)
 | _=>false
def turnsB (a b:D):Bool:=match a with
 | .int i=>decide (0≤i) && (decide (i≤6) && mostB i b)
 | _=>false
def incB (ps:List Nat):Bool:=(List.range (ps.length - 1)).all fun k=>decide (ps.getD k 0 < ps.getD (k+1) 0)
def scanC (ns:List (List Nat)):List D→Option (List Nat)
 | []=>some []
 | x::xs=>match strOf x with
  | some n=>if n∈ns then (scanC ns xs).map (ns.idxOf n :: ·) else none
  | none=>none
theorem qiX {ns:List (List Nat)} {x:D} {xs:List D} (h:strOf x=none):scanC ns (x::xs)=none:=by
 unfold scanC
 rw [h]
theorem qfW {ns:List (List Nat)} {n:List Nat} {xs:List D} (h:n∈ns):scanC ns (tx n::xs)=(scanC ns xs).map (ns.idxOf n :: ·):=by
 show (if n∈ns then (scanC ns xs).map (ns.idxOf n :: ·) else none)=_
 rw [if_pos h]
theorem qhG {ns:List (List Nat)} {n:List Nat} {xs:List D} (h:n∉ns):scanC ns (tx n::xs)=none:=by
 show (if n∈ns then (scanC ns xs).map (ns.idxOf n :: ·) else none)=_
 rw [if_neg h]
def choiceB (ns:List (List Nat)):D→Bool
 | .tup xs=>!xs.isEmpty && (match scanC ns xs with
  | some ps=>incB ps
  | none=>false)
 | _=>false
theorem qex (n:List Nat):∀ ns:List (List Nat),n∈ns→findD (tx n) (ns.map tx)=some (ns.idxOf n)
 | [],h=>by cases h
 | k::ns,h=>by
  rw [wah]
  unfold findD
  rw [qct,List.idxOf_cons]
  by_cases hk:k=n
  ·rw [decide_eq_true hk,if_pos rfl,show (k == n)=true from by simp [hk]]
   rfl
  ·rw [decide_eq_false hk,if_neg (by decide),show (k == n)=false from by simp [hk]]
   rcases wat.mp h with e | h
   ·exact absurd e.symm hk
   ·rw [qex n ns h]
    rfl
theorem qgk {n:List Nat} {ns:List (List Nat)} (h:n∈ns):mIndex (.lst (ns.map tx)) [tx n]=some (.int (ns.idxOf n:Nat)):=by
 show (if isData (.lst (ns.map tx))=true∧isData (tx n)=true then (findD (tx n) (ns.map tx)).map fun j=>D.int (j:Nat) else none)=_
 rw [if_pos ⟨qdx ns,rfl⟩,qex n ns h]
 rfl
theorem qey {ns:List (List Nat)}:∀ {xs:List D} {qs:List Nat},scanC ns xs=some qs→qs.length=xs.length
 | [],_,h=>by cases h; rfl
 | x::xs,qs,h=>by
  unfold scanC at h
  cases hs:strOf x with
  | none=>rw [hs] at h; cases h
  | some n=>
   rw [hs] at h
   have h:(if n∈ns then (scanC ns xs).map (ns.idxOf n :: ·) else none)=some qs:=h
   by_cases hn:n∈ns
   ·rw [if_pos hn] at h
    obtain ⟨r,e,rfl⟩:=wad.mp h
    rw [wab,wab,qey e]
   ·rw [if_neg hn] at h
    cases h
def sdN:Nat→D→Bool
 | _,.non=>true
 | _,.bl _=>true
 | _,.int _=>true
 | _,.str s=>decide (s.cps.toList.length≤100000)
 | n+1,.lst xs=>decide (xs.length≤100000) && xs.all (sdN n)
 | n+1,.tup xs=>decide (xs.length≤100000) && xs.all (sdN n)
 | _,_=>false
theorem qnb {n:Nat} {xs:List D} (h:sdN (n+1) (.lst xs)=true):xs.length≤100000∧∀ x∈xs,sdN n x=true:=by
 have h:(decide (xs.length≤100000) && xs.all (sdN n))=true:=h
 rw [wac,decide_eq_true_iff,wag] at h
 exact h
theorem qdB {n:Nat} {xs:List D} (h:sdN (n+1) (.tup xs)=true):xs.length≤100000∧∀ x∈xs,sdN n x=true:=by
 have h:(decide (xs.length≤100000) && xs.all (sdN n))=true:=h
 rw [wac,decide_eq_true_iff,wag] at h
 exact h
theorem qhH {n:Nat} {xs:List D} (hl:xs.length≤100000) (h:∀ x∈xs,sdN n x=true):sdN (n+1) (.tup xs)=true:=by
 show (decide (xs.length≤100000) && xs.all (sdN n))=true
 rw [wac,decide_eq_true_iff,wag]
 exact ⟨hl,h⟩
theorem qcg:∀ {n:Nat} {d:D},sdN n d=true→dataN n d=true:=by
 intro n
 induction n with
 | zero=>intro d h; cases d <;> first | rfl | cases h
 | succ n ih=>
  intro d h
  cases d with
  | non=>rfl
  | bl _=>rfl
  | int _=>rfl
  | str _=>rfl
  | lst xs=>exact wag.mpr fun x hx=>ih ((qnb h).2 x hx)
  | tup xs=>exact wag.mpr fun x hx=>ih ((qdB h).2 x hx)
  | _=>cases h
theorem qaT {n:Nat} {d:D} (h:sdN n d=true):noLoc d=true:=qce (qcg h)
theorem qdn {n:Nat} {d:D} (h:sdN n d=true):tyOk d=true:=qcd (qcg h)
theorem qk8:∀ {n:Nat} {d:D},dataN n d=true→dataN (n+1) d=true:=by
 intro n
 induction n with
 | zero=>intro d h; cases d <;> first | rfl | cases h
 | succ n ih=>
  intro d h
  cases d with
  | non=>rfl
  | bl _=>rfl
  | int _=>rfl
  | str _=>rfl
  | lst xs=>exact wag.mpr fun x hx=>ih (qiU h x hx)
  | tup xs=>exact wag.mpr fun x hx=>ih (qcQ h x hx)
  | _=>cases h
theorem qfb {n k:Nat} {d:D} (h:dataN n d=true) (hk:n≤k):dataN k d=true:=by
 induction hk with
 | refl=>exact h
 | step _ ih=>exact qk8 ih
def rowB (ns:List (List Nat)):D→Bool
 | .tup cs=>decide (1≤cs.length) && (decide (cs.length≤3) && cs.all (choiceB ns))
 | _=>false
def partB (ns:List (List Nat)):D→Bool
 | .tup [r,a,b]=>turnsB a b && rowB ns r
 | _=>false
theorem qcu (a b c:D):dIx (.tup [a,b,c]) (.int 0)=some a:=rfl
theorem qjE (a b c:D):dIx (.tup [a,b,c]) (.int 1)=some b:=rfl
theorem qjF (a b c:D):dIx (.tup [a,b,c]) (.int 2)=some c:=rfl
theorem qch (ns:List (List Nat)):noLocs (ns.map tx)=true:=qas _ (fun _=>rfl) ns
def nmsOf (ks:Kd):List (List Nat):=ks.map (fun p=>p.1.cps.toList)++[cRest]
def patB (ns:List (List Nat)):D→Bool
 | .tup [.bl _,.tup ps]=>decide (ps.length≤5) && ps.all (partB ns)
 | _=>false
theorem qdC {d:D} (m:Mem) (h:tyOk d=true):zaY [d] m = .ok (.bl (wholeB d)) m:=by
 have h1:=qn2 h
 have h2:=qna h
 unfold zaY zc1
 cases d <;> first | (cases h; done) | (simp_arith [qaO,h1,h2,intB,boolB,wholeB]; done)
theorem qfc {a b:D} (ha:tyOk a=true) (hb:tyOk b=true) (na:noLoc a=true) (nb:noLoc b=true):zbd [a,b] [] = .ok (.bl (turnsB a b)) []:=by
 have c1:∀ ρ m,eCall false 1 zaY (lCons (eVar 0) lNil) (some a::ρ) m = .ok (.bl (wholeB a)) m:=fun ρ m=>qcc (x:=a) rfl na ⟨[],qdC [] ha⟩ rfl
 have c2:∀ a0 ρ m,eCall false 1 zaY (lCons (eVar 1) lNil) (a0::some b::ρ) m = .ok (.bl (wholeB b)) m:=fun a0 ρ m=>qcc (x:=b) rfl nb ⟨[],qdC [] hb⟩ rfl
 unfold zbd zcU
 cases hw:wholeB a with
 | false=>
  rw [hw] at c1
  have ht:turnsB a b=false:=by cases a <;> first | rfl | cases hw
  rw [ht]
  simp_arith [c1]
 | true=>
  rw [hw] at c1
  cases a with
  | int i=>
   have mx:dMax [.int 1,.int i]=some (.int (if i > 1 then i else 1)):=rfl
   have ht:turnsB (.int i) b=(decide (0≤i) && (decide (i≤6) && mostB i b)):=rfl
   rw [ht]
   cases h0:decide ((0:Int)≤i) with
   | false=>simp_arith [c1,qaB,h0,wav]
   | true=>
    cases h6:decide (i≤(6:Int)) with
    | false=>simp_arith [c1,qaB,h0,h6,wav,wam]
    | true=>
     cases b with
     | non=>
      have di:dIs .non .non=some true:=rfl
      have mb:mostB i .non=true:=rfl
      simp_arith [c1,qaB,h0,h6,di,mb,wam]
     | int j=>
      have di:dIs (.int j) .non=some false:=rfl
      have hw2:wholeB (.int j)=true:=rfl
      have mb:mostB i (.int j)=(decide ((if i > 1 then i else 1)≤j) && decide (j≤6)):=rfl
      rw [mb]
      generalize (if i > 1 then i else 1)=z at *
      cases hz:decide (z≤j) with
      | false=>simp_arith [c1,c2,qaB,qfV,h0,h6,di,hw2,mx,hz,wam,wav]
      | true=>simp_arith [c1,c2,qaB,qfV,h0,h6,di,hw2,mx,hz,wam]
     | bl j=>
      have di:dIs (.bl j) .non=some false:=rfl
      have hw2:wholeB (.bl j)=false:=rfl
      have mb:mostB i (.bl j)=false:=rfl
      simp_arith [c1,c2,qaB,h0,h6,di,hw2,mb,wam]
     | str j=>
      have di:dIs (.str j) .non=some false:=rfl
      have hw2:wholeB (.str j)=false:=rfl
      have mb:mostB i (.str j)=false:=rfl
      simp_arith [c1,c2,qaB,h0,h6,di,hw2,mb,wam]
     | lst j=>
      have di:dIs (.lst j) .non=some false:=rfl
      have hw2:wholeB (.lst j)=false:=rfl
      have mb:mostB i (.lst j)=false:=rfl
      simp_arith [c1,c2,qaB,h0,h6,di,hw2,mb,wam]
     | tup j=>
      have di:dIs (.tup j) .non=some false:=rfl
      have hw2:wholeB (.tup j)=false:=rfl
      have mb:mostB i (.tup j)=false:=rfl
      simp_arith [c1,c2,qaB,h0,h6,di,hw2,mb,wam]
     | dct j=>
      have di:dIs (.dct j) .non=some false:=rfl
      have hw2:wholeB (.dct j)=false:=rfl
      have mb:mostB i (.dct j)=false:=rfl
      simp_arith [c1,c2,qaB,h0,h6,di,hw2,mb,wam]
     | _=>cases hb
  | _=>cases hw
theorem qbI (ns:List (List Nat)) (th:D) (a4:Option D):∀ (xs:List D) (ps:List Nat) (x:Option D),(∀ d∈xs,tyOk d=true)→ps.length+xs.length≤100000 →
  match scanC ns xs with
  | some qs=>∃ x',forL (gName 3) zaD xs [some (.lst (ns.map tx)),some th,some (.loc 0),x,a4] [.lst (ps.map fun (p:Nat)=>D.int (p:Int))] = .nx [some (.lst (ns.map tx)),some th,some (.loc 0),x',a4] [.lst ((ps++qs).map fun (p:Nat)=>D.int (p:Int))]
  | none=>∃ m',forL (gName 3) zaD xs [some (.lst (ns.map tx)),some th,some (.loc 0),x,a4] [.lst (ps.map fun (p:Nat)=>D.int (p:Int))] = .rt (.bl false) m'
 | [],ps,x,_,_=>⟨x,by simp⟩
 | d::ds,ps,x,h,hl=>by
  rw [wab] at hl
  have hd:=h d (by simp)
  have hi:=qm7 hd
  rw [qaL]
  cases hs:strOf d with
  | none=>
   rw [hs] at hi
   rw [qiX hs]
   refine ⟨[.lst (ps.map fun (p:Nat)=>D.int (p:Int))],?_⟩
   simp -implicitDefEqProofs only [qbi,waD,waE]
   unfold zaD
   simp_arith [sW_a,qaO hd,hi,wbk]
  | some n=>
   obtain rfl:=qbe hs
   rw [hs] at hi
   have dn:dNotIn (tx n) (.lst (ns.map tx))=some (!decide (n∈ns)):=by
    show (dIn (tx n) (.lst (ns.map tx))).map _=_
    rw [qdd]
    rfl
   by_cases hn:n∈ns
   ·rw [decide_eq_true hn] at dn
    have hx:=qgk hn
    have hl2:(ps.map fun (p:Nat)=>D.int (p:Int)).length < 16777216:=by rw [waa]; omega
    have hl3:ps.length < 16777216:=by omega
    have e:zaD [some (.lst (ns.map tx)),some th,some (.loc 0),some (tx n),a4] [.lst (ps.map fun (p:Nat)=>D.int (p:Int))] = .nx [some (.lst (ns.map tx)),some th,some (.loc 0),none,a4] [.lst ((ps++[ns.idxOf n]).map fun (p:Nat)=>D.int (p:Int))]:=by
     unfold zaD
     simp_arith [sW_a,hi,wa3,dn,hx,hl2,hl3,waa,waP]
    have ih:=qbI ns th a4 ds (ps++[ns.idxOf n]) none (fun y hy=>h y (by simp [hy])) (by rw [wao,wbc]; omega)
    rw [qfW hn]
    simp -implicitDefEqProofs only [qbi,waD,waE,e]
    cases hq:scanC ns ds with
    | none=>
     rw [hq] at ih
     exact ih
    | some qs=>
     rw [hq] at ih
     obtain ⟨x',ih⟩:=ih
     refine ⟨x',?_⟩
     rw [ih,List.append_assoc]
     rfl
   ·rw [decide_eq_false hn] at dn
    rw [qhG hn]
    refine ⟨[.lst (ps.map fun (p:Nat)=>D.int (p:Int))],?_⟩
    simp -implicitDefEqProofs only [qbi,waD,waE]
    unfold zaD
    simp_arith [sW_a,hi,wa3,dn]
theorem qfd (ns:List (List Nat)) {d:D} {n:Nat} (h:dataN n d=true) (hl:∀ xs,d = .tup xs→xs.length≤100000):∃ m',zbJ [.lst (ns.map tx),d] [] = .ok (.bl (choiceB ns d)) m':=by
 have hty:=qcd h
 have hi:=qe6 hty
 unfold zbJ zcW
 cases ht:isTup d with
 | false=>
  rw [ht] at hi
  have hb:choiceB ns d=false:=by cases d <;> first | rfl | cases ht
  rw [hb]
  refine ⟨[],?_⟩
  simp_arith [qaO hty,hi]
 | true=>
  obtain ⟨xs,rfl⟩:=qa3 ht
  rw [ht] at hi
  have hx:∀ x∈xs,tyOk x=true:=by
   cases n with
   | zero=>cases h
   | succ n=>exact fun x hx=>qcd (qcQ h x hx)
  have hlen:=hl xs rfl
  by_cases h0:xs=[]
  ·subst h0
   refine ⟨[],?_⟩
   have z:(((0:Nat):Int) == 0)=true:=rfl
   have hb:choiceB ns (.tup [])=false:=rfl
   rw [hb]
   simp_arith [hi,z]
  ·have z:(((xs.length:Nat):Int) == 0)=false:=by simp; exact h0
   have hemp:xs.isEmpty=false:=by cases xs with | nil=>exact absurd rfl h0 | cons _ _=>rfl
   have lp:=qbI ns (.tup xs) none xs [] none hx (by rw [was]; omega)
   have hb:choiceB ns (.tup xs)=(match scanC ns xs with
     | some ps=>incB ps
     | none=>false):=by
    show (!xs.isEmpty && _)=_
    rw [hemp]
    rfl
   rw [hb]
   cases hs:scanC ns xs with
   | none=>
    rw [hs] at lp
    obtain ⟨m',e⟩:=lp
    rw [wa8] at e
    refine ⟨m',?_⟩
    simp_arith [hi,z,e]
   | some qs=>
    rw [hs] at lp
    obtain ⟨x',e⟩:=lp
    rw [wa8,wax] at e
    have hq:=qey hs
    have hq0:0 < qs.length:=by rw [hq]; exact List.length_pos_iff.mpr h0
    have hr:((qs.length:Nat):Int) - 1=((qs.length - 1:Nat):Int):=by omega
    have f2:∀ r (xs:List D) a0 a1,frzAt 2 (a0::a1::some (.loc 0)::r) [Cell.lst xs] = .nx (a0::a1::some (.lst xs)::r) [Cell.dead]:=fun r xs a0 a1=>by
     unfold frzAt
     simp -implicitDefEqProofs only [waQ,waI,waD,waE]
    have cm:∀ a0 a1 a3 m,compL (gName 4) tYes zcf [a0,a1,some (.lst (qs.map fun (p:Nat)=>D.int (p:Int))),a3,none] (dRange ((qs.length - 1:Nat):Int)) [] m = .ok ((List.range (qs.length - 1)).map fun k=>.bl (decide (qs.getD k 0 < qs.getD (k+1) 0))) m:=fun a0 a1 a3 m=>by
     refine qeZ (fun k=>.bl (decide (qs.getD k 0 < qs.getD (k+1) 0))) m (by omega) fun k hk=>⟨_,rfl,?_⟩
     have g1:dIx (.lst (qs.map fun (p:Nat)=>D.int (p:Int))) (.int (k:Nat))=some (.int (qs.getD k 0:Nat)):=by
      rw [qeS,wal,wan (by omega),waA,wan (by omega)]
      rfl
     have g2:dIx (.lst (qs.map fun (p:Nat)=>D.int (p:Int))) (.int ((k:Int)+1))=some (.int (qs.getD (k+1) 0:Nat)):=by
      rw [show ((k:Int)+1)=((k+1:Nat):Int) from rfl,qeS,wal,wan (by omega),waA,wan (by omega)]
      rfl
     have dl:decide (((qs.getD k 0:Nat):Int) < (qs.getD (k+1) 0:Nat))=decide (qs.getD k 0 < qs.getD (k+1) 0):=by rw [decide_eq_decide]; omega
     unfold zcf
     simp_arith [g1,g2,dl]
    have da:=qb0 (fun k=>decide (qs.getD k 0 < qs.getD (k+1) 0)) (List.range (qs.length - 1))
    refine ⟨[.dead],?_⟩
    simp_arith [hi,z,e,f2,waa,hr,fun m=>qa2 (n:=qs.length - 1) (m:=m) (by omega),cm,da]
    rfl
theorem qhI (ns:List (List Nat)) {d:D} {n:Nat} (h:sdN n d=true):∃ m',zct [.lst (ns.map tx),d] [] = .ok (.bl (partB ns d)) m':=by
 have hty:=qdn h
 have hi:=qe6 hty
 unfold zct zdr
 cases ht:isTup d with
 | false=>
  rw [ht] at hi
  have hb:partB ns d=false:=by cases d <;> first | rfl | cases ht
  rw [hb]
  refine ⟨[],?_⟩
  simp_arith [qaO hty,hi]
 | true=>
  obtain ⟨xs,rfl⟩:=qa3 ht
  rw [ht] at hi
  by_cases h3:xs.length=3
  case neg=>
   have hb:partB ns (.tup xs)=false:=by
    match xs,h3 with
    | [],_=>rfl
    | [_],_=>rfl
    | [_,_],_=>rfl
    | [_,_,_],h3=>exact absurd rfl h3
    | _::_::_::_::_,_=>rfl
   have hz:((xs.length:Int) != 3)=true:=by simp; omega
   rw [hb]
   refine ⟨[],?_⟩
   simp_arith [hi,hz]
  case pos=>
   match xs,h3 with
   | [r,a,b],_=>
    obtain ⟨n,rfl⟩:∃ k,n=k+1:=by
     cases n with
     | zero=>cases h
     | succ n=>exact ⟨n,rfl⟩
    have hs:=qdB h
    have hr:=hs.2 r (by simp)
    have ha:=hs.2 a (by simp)
    have hb:=hs.2 b (by simp)
    have hz3:(((3:Nat):Int) != 3)=false:=rfl
    have c1:∀ a0 ρ m,eCall false 2 zbd (lCons (eOp dIx (eVar 1) (eC (.int 1))) (lCons (eOp dIx (eVar 1) (eC (.int 2))) lNil)) (a0::some (.tup [r,a,b])::ρ) m = .ok (.bl (turnsB a b)) m:=fun a0 ρ m=>
     qe5 (x:=a) (y:=b) (m1:=m) (by simp_arith [qjE]) (by simp_arith [qjF]) (qaT ha) (qaT hb) ⟨[],qfc (qdn ha) (qdn hb) (qaT ha) (qaT hb)⟩ rfl
    have hpb:partB ns (.tup [r,a,b])=(turnsB a b && rowB ns r):=rfl
    rw [hpb]
    cases htb:turnsB a b with
    | false=>
     rw [htb] at c1
     refine ⟨[],?_⟩
     simp_arith [hi,hz3,c1,wav]
    | true=>
     rw [htb,] at c1
     rw [wam]
     have hir:=qe6 (qdn hr)
     have vr:∀ m,view m r=r:=fun m=>qaO (qdn hr)
     cases htr:isTup r with
     | false=>
      rw [htr] at hir
      have hb:rowB ns r=false:=by cases r <;> first | rfl | cases htr
      rw [hb]
      refine ⟨[],?_⟩
      simp_arith [hi,hz3,c1,qcu,vr,hir]
     | true=>
      obtain ⟨cs,rfl⟩:=qa3 htr
      rw [htr] at hir
      have hrb:rowB ns (.tup cs)=(decide (1≤cs.length) && (decide (cs.length≤3) && cs.all (choiceB ns))):=rfl
      rw [hrb]
      have i1:decide ((1:Int)≤(cs.length:Nat))=decide (1≤cs.length):=by rw [decide_eq_decide]; omega
      have i3:decide (((cs.length:Nat):Int)≤3)=decide (cs.length≤3):=by rw [decide_eq_decide]; omega
      cases h1:decide (1≤cs.length) with
      | false=>
       rw [h1] at i1
       refine ⟨[],?_⟩
       simp_arith [hi,hz3,c1,qcu,hir,qaB,i1,wav]
      | true=>
       rw [h1] at i1
       cases h3:decide (cs.length≤3) with
       | false=>
        rw [h3] at i3
        refine ⟨[],?_⟩
        simp_arith [hi,hz3,c1,qcu,hir,qaB,i1,i3,wav,wam]
       | true=>
        rw [h3] at i3
        obtain ⟨n,rfl⟩:∃ k,n=k+1:=by
         cases n with
         | zero=>cases hr
         | succ n=>exact ⟨n,rfl⟩
        have hcs:=qdB hr
        have cm:∀ a1 m,compL (gName 2) tYes zce [some (.lst (ns.map tx)),a1,none] cs [] m = .ok (cs.map fun c=>.bl (choiceB ns c)) m:=fun a1 m=>by
         have:=qbq (g:=gName 2) (e:=zce) (ρ:=[some (.lst (ns.map tx)),a1,none]) (fun c=>.bl (choiceB ns c)) cs [] m (fun c hc=>⟨_,rfl,by
          have hc':=hcs.2 c hc
          unfold zce
          refine qe5 (x:=.lst (ns.map tx)) (y:=c) (m1:=m) rfl rfl (qch ns) (qaT hc') (qfd ns (qcg hc') fun xs e=>?_) rfl
          rw [e] at hc'
          cases n with
          | zero=>cases hc'
          | succ n=>exact (qdB hc').1⟩) (by show 0+cs.length≤16777216; have:=hcs.1; omega)
         rw [this,wax]
        have da:=qb0 (choiceB ns) cs
        refine ⟨[],?_⟩
        simp_arith [hi,hz3,c1,qcu,hir,qaB,i1,i3,wam,cm,da]
theorem qgl {ks:Kd} (h:ks.length≤1000):zbH [.lst (ks.map kdD)] [] = .ok (.lst ((nmsOf ks).map tx)) []:=by
 have cm:∀ a0 m,compL (gTup 2 (gsCons (gName 1) (gsCons (gName 2) gsNil))) tYes zcG [a0,none,none] (ks.map kdD) [] m = .ok (ks.map fun p=>tx p.1.cps.toList) m:=fun a0 m=>by
  have:=qbq (g:=gTup 2 (gsCons (gName 1) (gsCons (gName 2) gsNil))) (e:=zcG) (ρ:=[a0,none,none]) (fun d=>match d with | .tup (n::_)=>n | d=>d) (ks.map kdD) [] m (fun d hd=>by
   obtain ⟨p,hp,rfl⟩:=wae.mp hd
   exact ⟨_,rfl,rfl⟩) (by show 0+(ks.map kdD).length≤16777216; rw [waa]; omega)
  rw [this,wax,waT]
  have e:(ks.map ((fun d=>match d with | D.tup (n::_)=>n | d=>d) ∘ kdD))=ks.map fun p=>tx p.1.cps.toList:=wbg fun p _=>qjD p.1
  rw [e]
 have ad:dAdd (.lst (ks.map fun p=>tx p.1.cps.toList)) (.lst [tx cRest])=some (.lst ((nmsOf ks).map tx)):=by
  rw [qk5 (by simp; omega)]
  simp [nmsOf,waT,Function.comp_def]
 unfold zbH zda
 simp_arith [cm,qhu,ad]
theorem qcv {ks:Kd} (hk:ks.length≤1000) {d:D} {n:Nat} (h:sdN n d=true):∃ m',zaB [.lst (ks.map kdD),d] [] = .ok (.bl (patB (nmsOf ks) d)) m':=by
 have hty:=qdn h
 have hi:=qe6 hty
 unfold zaB zcu
 cases ht:isTup d with
 | false=>
  rw [ht] at hi
  have hb:patB (nmsOf ks) d=false:=by cases d <;> first | rfl | cases ht
  rw [hb]
  refine ⟨[],?_⟩
  simp_arith [qaO hty,hi]
 | true=>
  obtain ⟨xs,rfl⟩:=qa3 ht
  rw [ht] at hi
  by_cases h2:xs.length=2
  case neg=>
   have hb:patB (nmsOf ks) (.tup xs)=false:=by
    match xs,h2 with
    | [],_=>rfl
    | [a],_=>cases a <;> rfl
    | [_,_],h2=>exact absurd rfl h2
    | a::b::_::_,_=>cases a <;> cases b <;> rfl
   have hz:((xs.length:Int) != 2)=true:=by simp; omega
   rw [hb]
   refine ⟨[],?_⟩
   simp_arith [hi,hz]
  case pos=>
   match xs,h2 with
   | [e,r],_=>
    obtain ⟨n,rfl⟩:∃ k,n=k+1:=by
     cases n with
     | zero=>cases h
     | succ n=>exact ⟨n,rfl⟩
    have hs:=qdB h
    have he:=hs.2 e (by simp)
    have hr:=hs.2 r (by simp)
    have hz2:(((2:Nat):Int) != 2)=false:=rfl
    have hie:=qna (qdn he)
    have hir:=qe6 (qdn hr)
    have ve:∀ m,view m e=e:=fun m=>qaO (qdn he)
    have vr:∀ m,view m r=r:=fun m=>qaO (qdn hr)
    cases hbe:boolB e with
    | false=>
     rw [hbe] at hie
     have hb:patB (nmsOf ks) (.tup [e,r])=false:=by cases e <;> first | rfl | cases hbe
     rw [hb]
     refine ⟨[],?_⟩
     simp_arith [hi,hz2,qb1,ve,hie]
    | true=>
     rw [hbe] at hie
     cases htr:isTup r with
     | false=>
      rw [htr] at hir
      have hb:patB (nmsOf ks) (.tup [e,r])=false:=by cases e <;> cases r <;> first | rfl | cases htr
      rw [hb]
      refine ⟨[],?_⟩
      simp_arith [hi,hz2,qb1,ve,hie,qdA,vr,hir]
     | true=>
      obtain ⟨ps,rfl⟩:=qa3 htr
      rw [htr] at hir
      have hb:patB (nmsOf ks) (.tup [e,.tup ps])=(decide (ps.length≤5) && ps.all (partB (nmsOf ks))):=by cases e <;> first | rfl | cases hbe
      rw [hb]
      have i5:decide ((5:Int) < (ps.length:Nat)) = !decide (ps.length≤5):=by
       by_cases h:ps.length≤5
       ·rw [decide_eq_true h]; simp; omega
       ·rw [decide_eq_false h]; simp; omega
      cases h5:decide (ps.length≤5) with
      | false=>
       rw [h5] at i5
       refine ⟨[],?_⟩
       simp_arith [hi,hz2,qb1,ve,hie,qdA,hir,i5,wav]
      | true=>
       rw [h5] at i5
       obtain ⟨n,rfl⟩:∃ k,n=k+1:=by
        cases n with
        | zero=>cases hr
        | succ n=>exact ⟨n,rfl⟩
       have hps:=qdB hr
       have nm:∀ ρ m,eCall false 1 zbH (lCons (eVar 0) lNil) (some (.lst (ks.map kdD))::ρ) m = .ok (.lst ((nmsOf ks).map tx)) m:=fun ρ m=>
        qcc (x:=.lst (ks.map kdD)) rfl (qaw ks) ⟨[],qgl hk⟩ (qch _)
       have cm:∀ a0 a1 m,compL (gName 3) tYes zbm [a0,a1,some (.lst ((nmsOf ks).map tx)),none] ps [] m = .ok (ps.map fun c=>.bl (partB (nmsOf ks) c)) m:=fun a0 a1 m=>by
        have:=qbq (g:=gName 3) (e:=zbm) (ρ:=[a0,a1,some (.lst ((nmsOf ks).map tx)),none]) (fun c=>.bl (partB (nmsOf ks) c)) ps [] m (fun c hc=>⟨_,rfl,by
         have hc':=hps.2 c hc
         unfold zbm
         exact qe5 (x:=.lst ((nmsOf ks).map tx)) (y:=c) (m1:=m) rfl rfl (qch _) (qaT hc') (qhI _ hc') rfl⟩) (by show 0+ps.length≤16777216; have:=hps.1; omega)
        rw [this,wax]
       have da:=qb0 (partB (nmsOf ks)) ps
       refine ⟨[],?_⟩
       simp_arith [hi,hz2,qb1,ve,hie,qdA,hir,i5,nm,cm,da,wam]
structure Pt where
 row:List (List (List Nat))
 least:Nat
 most:Option Nat
def chD (ch:List (List Nat)):D:=.tup (ch.map tx)
def rowD (r:List (List (List Nat))):D:=.tup (r.map chD)
def moD:Option Nat→D
 | none=>.non
 | some t=>.int (t:Nat)
def ptD (p:Pt):D:=.tup [rowD p.row,.int (p.least:Nat),moD p.most]
def patD (e:Bool) (ps:List Pt):D:=.tup [.bl e,.tup (ps.map ptD)]
structure GoodC (ns:List (List Nat)) (ch:List (List Nat)):Prop where
 is:∃ is:List Nat,is≠[]∧is.Pairwise (· < ·)∧(∀ i∈is,i < ns.length)∧ch=is.map fun i=>ns.getD i []
structure GoodP (ns:List (List Nat)) (p:Pt):Prop where
 ch:∀ c∈p.row,GoodC ns c
 r1:1≤p.row.length
 r3:p.row.length≤3
 tn:turnsB (.int (p.least:Nat)) (moD p.most)=true
 lo:p.least≤6
structure GoodPs (ns:List (List Nat)) (ps:List Pt):Prop where
 pt:∀ p∈ps,GoodP ns p
 five:ps.length≤5
structure GoodNs (ns:List (List Nat)):Prop where
 un:ns.Nodup
 one:1≤ns.length
 seven:ns.length≤7
 sz:∀ n∈ns,n.length≤600
theorem qk9 {ns:List (List Nat)} (h:ns.Nodup) {i:Nat} (hi:i < ns.length):ns.idxOf (ns.getD i [])=i:=by
 rw [waA,wan hi]
 exact List.Nodup.idxOf_getElem h i hi
theorem qfX {ns:List (List Nat)} (h:ns.Nodup):∀ is:List Nat,(∀ i∈is,i < ns.length)→scanC ns ((is.map fun i=>ns.getD i []).map tx)=some is
 | [],_=>rfl
 | i::is,hi=>by
  have h1:=hi i (by simp)
  have hm:ns.getD i []∈ns:=by
   rw [waA,wan h1]
   exact wbD h1
  rw [wah,wah,qfW hm,qfX h is fun j hj=>hi j (by simp [hj]),qk9 h h1]
  rfl
theorem qla {is:List Nat} (h:is.Pairwise (· < ·)):incB is=true:=by
 unfold incB
 rw [wag]
 intro k hk
 have hk:=wbm.mp hk
 rw [decide_eq_true_iff]
 have:=List.pairwise_iff_getElem.mp h k (k+1) (by omega) (by omega) (by omega)
 rw [waA,waA,wan (by omega),wan (by omega)]
 exact this
theorem GoodC.ok {ns ch:List (List Nat)} (N:GoodNs ns) (C:GoodC ns ch):choiceB ns (chD ch)=true:=by
 obtain ⟨is,h1,h2,h3,rfl⟩:=C.is
 show (!((is.map fun i=>ns.getD i []).map tx).isEmpty && (match scanC ns ((is.map fun i=>ns.getD i []).map tx) with
  | some ps=>incB ps
  | none=>false))=true
 rw [qfX N.un is h3]
 have:((is.map fun i=>ns.getD i []).map tx).isEmpty=false:=by
  cases is with
  | nil=>exact absurd rfl h1
  | cons _ _=>rfl
 rw [this]
 exact qla h2
theorem GoodC.len {ns ch:List (List Nat)} (C:GoodC ns ch):ch.length≤ns.length:=by
 obtain ⟨is,h1,h2,h3,rfl⟩:=C.is
 rw [waa]
 have:=qeo (l:=is) (l2:=List.range ns.length) (qcR h2) fun i hi=>wbm.mpr (h3 i hi)
 simpa using this
theorem GoodC.mem {ns ch:List (List Nat)} (C:GoodC ns ch):∀ n∈ch,n∈ns:=by
 obtain ⟨is,h1,h2,h3,rfl⟩:=C.is
 intro n hn
 obtain ⟨i,hi,rfl⟩:=wae.mp hn
 rw [waA,wan (h3 i hi)]
 exact wbD _
theorem GoodP.ok {ns:List (List Nat)} (N:GoodNs ns) {p:Pt} (P:GoodP ns p):partB ns (ptD p)=true:=by
 show (turnsB (.int (p.least:Nat)) (moD p.most) && (decide (1≤(p.row.map chD).length) && (decide ((p.row.map chD).length≤3) && (p.row.map chD).all (choiceB ns))))=true
 rw [P.tn,waa,decide_eq_true P.r1,decide_eq_true P.r3,wam,wam,wam,wag]
 intro d hd
 obtain ⟨c,hc,rfl⟩:=wae.mp hd
 exact (P.ch c hc).ok N
theorem GoodPs.ok {ns:List (List Nat)} (N:GoodNs ns) {ps:List Pt} (P:GoodPs ns ps) (e:Bool):patB ns (patD e ps)=true:=by
 show (decide ((ps.map ptD).length≤5) && (ps.map ptD).all (partB ns))=true
 rw [waa,decide_eq_true P.five,wam,wag]
 intro d hd
 obtain ⟨c,hc,rfl⟩:=wae.mp hd
 exact (P.pt c hc).ok N
theorem GoodP.sd {ns:List (List Nat)} (N:GoodNs ns) {p:Pt} (P:GoodP ns p):sdN 8 (ptD p)=true:=by
 refine qhH (n:=7) (by simp) (all_cons ?_ (all_cons rfl (all_cons ?_ qhv)))
 ·refine qhH (n:=6) (by rw [waa]; have:=P.r3; omega) fun d hd=>?_
  obtain ⟨c,hc,rfl⟩:=wae.mp hd
  have hl:=(P.ch c hc).len
  have h7:=N.seven
  refine qhH (n:=5) (by rw [waa]; omega) fun x hx=>?_
  obtain ⟨n,hn,rfl⟩:=wae.mp hx
  have:=N.sz n ((P.ch c hc).mem n hn)
  show decide (n.toArray.toList.length≤100000)=true
  rw [decide_eq_true_iff]
  have e:n.toArray.toList=n:=by simp
  rw [e]
  omega
 ·cases p.most <;> rfl
theorem GoodPs.sd {ns:List (List Nat)} (N:GoodNs ns) {ps:List Pt} (P:GoodPs ns ps) (e:Bool):sdN 10 (patD e ps)=true:=by
 refine qhH (n:=9) (by simp) (all_cons rfl (all_cons ?_ qhv))
 refine qhH (n:=8) (by rw [waa]; have:=P.five; omega) fun d hd=>?_
 obtain ⟨c,hc,rfl⟩:=wae.mp hd
 exact (P.pt c hc).sd N
theorem GoodPs.nl {ns:List (List Nat)} (N:GoodNs ns) {ps:List Pt} (P:GoodPs ns ps) (e:Bool):noLoc (patD e ps)=true:=qaT (P.sd N e)
theorem GoodPs.data {ns:List (List Nat)} (N:GoodNs ns) {ps:List Pt} (P:GoodPs ns ps) (e:Bool):isData (patD e ps)=true:=qfb (qcg (P.sd N e)) (by omega)
def pw (k:Nat):Nat:=[1,2,4,8,16,32,64].getD k 1
def timesOf (p:Pt):Int:=match p.most with
 | none=>if (p.least:Int) > 1 then p.least else 1
 | some t=>(t:Nat)
def puOf (p:Pt):Int:=(p.row.length:Nat) * timesOf p
def unitsOf (ps:List Pt):Int:=(ps.map puOf).sum
theorem qez {p:Pt} (h:p.row.length≤1000):zbs [ptD p] [] = .ok (.int (puOf p)) []:=by
 have ll:dLen [rowD p.row]=some (.int (p.row.length:Nat)):=by
  show some (D.int ((p.row.map chD).length:Nat))=_
  rw [waa]
 have vr:∀ m,view m (rowD p.row)=rowD p.row:=fun _=>rfl
 unfold zbs zch puOf timesOf ptD
 cases p.most with
 | none=>
  have di:dIs .non .non=some true:=rfl
  have mx:dMax [.int 1,.int (p.least:Nat)]=some (.int (if (p.least:Int) > 1 then (p.least:Int) else 1)):=rfl
  have ml:dMul (.int (p.row.length:Nat)) (.int (if (p.least:Int) > 1 then (p.least:Int) else 1))=some (.int ((p.row.length:Nat) * (if (p.least:Int) > 1 then (p.least:Int) else 1))):=qbb (by omega)
  simp_arith [moD,di,vr,ll,mx,ml]
 | some t=>
  have di:dIs (.int (t:Nat)) .non=some false:=rfl
  have ml:dMul (.int (p.row.length:Nat)) (.int (t:Nat))=some (.int ((p.row.length:Nat) * (t:Nat))):=qbb (by omega)
  simp_arith [moD,di,vr,ll,ml]
theorem qhJ {ns:List (List Nat)} (N:GoodNs ns) {ps:List Pt} (P:GoodPs ns ps) (e:Bool):zdn [patD e ps] [] = .ok (.int (unitsOf ps)) []:=by
 have cm:∀ a0 m,compL (gName 1) tYes zc0 [a0,none] (ps.map ptD) [] m = .ok (ps.map fun p=>.int (puOf p)) m:=fun a0 m=>by
  have:=qb2 (g:=gName 1) (e:=zc0) (ρ:=[a0,none]) (m:=m) ptD (fun p=>.int (puOf p)) ps [] (fun p hp=>⟨_,rfl,by
   have G:=P.pt p hp
   unfold zc0
   exact qcc (x:=ptD p) rfl (qaT (G.sd N)) ⟨[],qez (by have:=G.r3; omega)⟩ rfl⟩) (by show 0+ps.length≤16777216; have:=P.five; omega)
  rw [this,wax]
 have ds:=qd3 puOf ps
 unfold zdn zdN patD
 simp_arith [qdA,cm,ds]
 rfl
theorem GoodP.one {ns:List (List Nat)} {row:List (List (List Nat))} (h:∀ c∈row,GoodC ns c) (h1:1≤row.length):GoodP ns ⟨row.take 1,1,some 1⟩:=
 ⟨fun c hc=>h c (wba hc),by show 1≤(row.take 1).length; rw [List.length_take]; omega,by show (row.take 1).length≤3; rw [List.length_take]; omega,rfl,by show 1≤6; decide⟩
structure Rl where
 w:Bool
 e1:Bool
 p1:List Pt
 e2:Bool
 p2:List Pt
def cCut:List Nat:=[99,117,116]
def cKeep:List Nat:=[107,101,101,112]
def wdL (b:Bool):List Nat:=if b then cKeep else cCut
theorem qjG:PySem.Str.ofString "cut" = ⟨cCut.toArray⟩:=by decide +kernel
theorem qhK:PySem.Str.ofString "keep" = ⟨cKeep.toArray⟩:=by decide +kernel
def rlD (r:Rl):D:=.tup [tx (wdL r.w),patD r.e1 r.p1,patD r.e2 r.p2]
structure GoodR (ns:List (List Nat)) (r:Rl):Prop where
 a:∀ p∈r.p1,GoodP ns p
 b:∀ p∈r.p2,GoodP ns p
 a2:r.p1.length≤5
 b2:r.p2.length≤5
theorem GoodR.ps1 {ns:List (List Nat)} {r:Rl} (h:GoodR ns r):GoodPs ns r.p1:=⟨h.a,h.a2⟩
theorem GoodR.ps2 {ns:List (List Nat)} {r:Rl} (h:GoodR ns r):GoodPs ns r.p2:=⟨h.b,h.b2⟩
def uB (rs:List Rl):Int:=(rs.map fun r=>unitsOf r.p1).sum
def uA (rs:List Rl):Int:=(rs.map fun r=>unitsOf r.p2).sum
def ruleB (ns:List (List Nat)):D→Bool
 | .tup [a,b,c]=>(match strOf a with
  | some l=>decide (l=cCut) || decide (l=cKeep)
  | none=>false) && (patB ns b && patB ns c)
 | _=>false
theorem qhL {ns:List (List Nat)} {xs:List D} (h:xs.length≠3):ruleB ns (.tup xs)=false:=by
 match xs,h with
 | [],_=>rfl
 | [_],_=>rfl
 | [_,_],_=>rfl
 | [_,_,_],h=>exact absurd rfl h
 | _::_::_::_::_,_=>rfl
theorem qhM {ns:List (List Nat)} {d:D} (h:isTup d=false):ruleB ns d=false:=by
 cases d <;> first | rfl | cases h
structure RAd (d:D):Prop where
 ty:tyOk d=true
 nl:noLoc d=true
 it:∀ a b c,d = .tup [a,b,c]→tyOk a=true∧noLoc a=true∧(∀ l,strOf a=some l→l.length≤100000)∧∃ n k,sdN n b=true∧sdN k c=true
theorem qiY (l:List Nat):dNotIn (tx l) (.tup [tx cCut,tx cKeep])=some (!(decide (l=cCut) || decide (l=cKeep))):=by
 show (dIn (tx l) (.tup [tx cCut,tx cKeep])).map (!·)=_
 have:dIn (tx l) (.tup [tx cCut,tx cKeep])=some (eqvD (tx cCut) (tx l) || (eqvD (tx cKeep) (tx l) || false)):=rfl
 rw [this,qct,qct]
 have e1:decide (cCut=l)=decide (l=cCut):=by simp [eq_comm]
 have e2:decide (cKeep=l)=decide (l=cKeep):=by simp [eq_comm]
 rw [e1,e2,Bool.or_false]
 rfl
theorem qhN {ks:Kd} (hk:ks.length≤1000) {d:D} (A:RAd d):∃ m',zb1 [.lst (ks.map kdD),d] [] = .ok (.bl (ruleB (nmsOf ks) d)) m':=by
 have hty:=A.ty
 have hi:=qe6 hty
 unfold zb1 zdo
 cases hd:isTup d with
 | false=>
  rw [hd] at hi
  rw [qhM hd]
  refine ⟨[],?_⟩
  simp_arith [qaO hty,hi]
 | true=>
  obtain ⟨xs,rfl⟩:=qa3 hd
  rw [hd] at hi
  by_cases hl:xs.length=3
  ·match xs,hl with
   | [a,b,c],_=>
    obtain ⟨ta,na,la,n,k,sb,sc⟩:=A.it a b c rfl
    have l3:(((3:Nat):Int) != 3)=false:=rfl
    have c0:∀ a0 ρ m,eCall false 1 zaG (lCons (eOp dIx (eVar 1) (eC (.int 0))) lNil) (a0::some (.tup [a,b,c])::ρ) m = .ok (.bl (strOf a).isSome) m:=fun a0 ρ m=>
     qcc (x:=a) (by simp_arith [qcu]) na ⟨[],qdh [] ta⟩ rfl
    have va:∀ m,view m a=a:=fun m=>qaO ta
    have ww:(D.str "cut")=tx cCut:=by show D.str (PySem.Str.ofString "cut")=_; rw [qjG]
    have wk:(D.str "keep")=tx cKeep:=by show D.str (PySem.Str.ofString "keep")=_; rw [qhK]
    cases hs:strOf a with
    | none=>
     have e:ruleB (nmsOf ks) (.tup [a,b,c])=false:=by
      show ((match strOf a with
       | some l=>decide (l=cCut) || decide (l=cKeep)
       | none=>false) && _)=false
      rw [hs]; rfl
     rw [e]
     rw [hs] at c0
     refine ⟨[],?_⟩
     simp_arith [hi,l3,c0,wbk]
    | some l=>
     have ea:=qbe hs
     subst ea
     rw [hs] at c0
     have inw:=qiY l
     obtain ⟨m1,p1⟩:=qcv hk sb
     obtain ⟨m2,p2⟩:=qcv hk sc
     have c1:∀ m,eCall false 2 zaB (lCons (eVar 0) (lCons (eOp dIx (eVar 1) (eC (.int 1))) lNil)) [some (.lst (ks.map kdD)),some (.tup [tx l,b,c])] m = .ok (.bl (patB (nmsOf ks) b)) m:=fun m=>
      qe5 (m1:=m) rfl (by simp_arith [qjE]) (qaw ks) (qaT sb) ⟨m1,p1⟩ rfl
     have c2:∀ m,eCall false 2 zaB (lCons (eVar 0) (lCons (eOp dIx (eVar 1) (eC (.int 2))) lNil)) [some (.lst (ks.map kdD)),some (.tup [tx l,b,c])] m = .ok (.bl (patB (nmsOf ks) c)) m:=fun m=>
      qe5 (m1:=m) rfl (by simp_arith [qjF]) (qaw ks) (qaT sc) ⟨m2,p2⟩ rfl
     have e:ruleB (nmsOf ks) (.tup [tx l,b,c])=((decide (l=cCut) || decide (l=cKeep)) && (patB (nmsOf ks) b && patB (nmsOf ks) c)):=rfl
     rw [e]
     refine ⟨[],?_⟩
     cases hw:(decide (l=cCut) || decide (l=cKeep)) with
     | false=>
      rw [hw] at inw
      simp_arith [hi,l3,c0,va,wa3,qcu,ww,wk,inw,wav]
     | true=>
      rw [hw] at inw
      cases hb:patB (nmsOf ks) b with
      | false=>
       rw [hb] at c1
       simp_arith [hi,l3,c0,va,wa3,qcu,ww,wk,inw,wam,wav,c1]
      | true=>
       rw [hb] at c1
       simp_arith [hi,l3,c0,va,wa3,qcu,ww,wk,inw,wam,c1,c2]
  ·rw [qhL hl]
   have l3:((xs.length:Int) != 3)=true:=by
    rw [bne_iff_ne]; omega
   refine ⟨[],?_⟩
   simp_arith [hi,l3]
theorem qgm {ks:Kd} (hk:ks.length≤1000) (RR:D) (a3 a4:Option D) (d:D) (A:RAd d) (m:Mem) :
  zan [some (.lst (ks.map kdD)),some RR,some d,a3,a4] m=if ruleB (nmsOf ks) d=true then .nx [some (.lst (ks.map kdD)),some RR,none,a3,a4] m else .exc (.exc "NoBook" []) [some (.lst (ks.map kdD)),some RR,some d,a3,a4] m:=by
 obtain ⟨m',e⟩:=qhN hk A
 have c1:eCall false 2 zb1 (lCons (eVar 0) (lCons (eVar 2) lNil)) [some (.lst (ks.map kdD)),some RR,some d,a3,a4] m = .ok (.bl (ruleB (nmsOf ks) d)) m:=qe5 (m1:=m) rfl rfl (qaw ks) A.nl ⟨m',e⟩ rfl
 unfold zan
 cases h:ruleB (nmsOf ks) d with
 | true=>
  rw [h] at c1
  simp_arith [sW_a,c1]
 | false=>
  rw [h] at c1
  simp_arith [sW_a,c1,qau]
theorem qci {ks:Kd} (hk:ks.length≤1000) (RR:D) (a3 a4:Option D) (m:Mem):∀ ds:List D,(∀ d∈ds,RAd d) →
  (ds.all (ruleB (nmsOf ks))=true→forL (gName 2) zan ds [some (.lst (ks.map kdD)),some RR,none,a3,a4] m = .nx [some (.lst (ks.map kdD)),some RR,none,a3,a4] m) ∧
  (ds.all (ruleB (nmsOf ks))=false→∃ ρ,forL (gName 2) zan ds [some (.lst (ks.map kdD)),some RR,none,a3,a4] m = .exc (.exc "NoBook" []) ρ m)
 | [],_=>⟨fun _=>rfl,fun h=>by cases h⟩
 | d::ds,h=>by
  have st:=qgm hk RR a3 a4 d (h d (by simp)) m
  obtain ⟨i1,i2⟩:=qci hk RR a3 a4 m ds fun x hx=>h x (by simp [hx])
  have hg:gName 2 d [some (.lst (ks.map kdD)),some RR,none,a3,a4]=some [some (.lst (ks.map kdD)),some RR,some d,a3,a4]:=rfl
  rw [qaL,hg]
  simp only [st,List.all_cons]
  cases hb:ruleB (nmsOf ks) d with
  | true=>
   simp only [if_true,wam]
   exact ⟨i1,i2⟩
  | false=>
   simp only [waG,if_false,wav]
   exact ⟨fun z=>(by cases z),fun _=>⟨_,rfl⟩⟩
theorem qeA {xs:List D} (h:xs.length≤12):decide ((12:Int) < (xs.length:Nat))=false:=decide_eq_false (by omega)
theorem qfe {ks:Kd} (hk:ks.length≤1000) {d:D} (hty:tyOk d=true) (h:isLst d=false∨∃ xs,d = .lst xs∧(12 < xs.length∨(∀ x∈xs,RAd x)∧xs.all (ruleB (nmsOf ks))=false)) :
  ∃ m',zad [.lst (ks.map kdD),d] [] = .exc (.exc "NoBook" []) m':=by
 have hi:=qm8 hty
 unfold zad za0
 rcases h with h | ⟨xs,rfl,h⟩
 ·rw [h] at hi
  refine ⟨[],?_⟩
  simp_arith [qaO hty,hi,qau]
 ·have hi:dIsInst [.lst xs,.ty "list"]=some (.bl true):=hi
  by_cases hl:xs.length≤12
  ·rcases h with h | ⟨h1,h2⟩
   ·omega
   ·obtain ⟨ρ,e⟩:=(qci hk (.lst xs) none none [] xs h1).2 h2
    have:=qeA hl
    refine ⟨[],?_⟩
    generalize zan=L at e ⊢
    simp_arith [hi,this,e]
  ·have:decide ((12:Int) < (xs.length:Nat))=true:=decide_eq_true (by omega)
   refine ⟨[],?_⟩
   simp_arith [hi,this,qau]
theorem qhO (b:Bool):(wdL b).length≤4:=by cases b <;> decide
theorem GoodR.ad {ns:List (List Nat)} (N:GoodNs ns) {r:Rl} (G:GoodR ns r):RAd (rlD r):=by
 refine ⟨rfl,?_,fun a b c e=>?_⟩
 ·show noLocs [tx (wdL r.w),patD r.e1 r.p1,patD r.e2 r.p2]=true
  simp [noLocs,GoodPs.nl N G.ps1 r.e1,GoodPs.nl N G.ps2 r.e2]
  rfl
 ·have e:D.tup [tx (wdL r.w),patD r.e1 r.p1,patD r.e2 r.p2] = .tup [a,b,c]:=e
  cases e
  refine ⟨rfl,rfl,fun l hl=>?_,10,10,G.ps1.sd N r.e1,G.ps2.sd N r.e2⟩
  cases hl
  have:=qhO r.w
  show (wdL r.w).toArray.toList.length≤100000
  simp
  omega
theorem GoodR.ok {ns:List (List Nat)} (N:GoodNs ns) {r:Rl} (G:GoodR ns r):ruleB ns (rlD r)=true:=by
 show ((match strOf (tx (wdL r.w)) with
  | some l=>decide (l=cCut) || decide (l=cKeep)
  | none=>false) && (patB ns (patD r.e1 r.p1) && patB ns (patD r.e2 r.p2)))=true
 rw [G.ps1.ok N,G.ps2.ok N]
 show ((decide ((wdL r.w).toArray.toList=cCut) || decide ((wdL r.w).toArray.toList=cKeep)) && true)=true
 cases r.w <;> rfl
theorem qn3 (r:Rl):dIx (rlD r) (.int 1)=some (patD r.e1 r.p1):=rfl
theorem qn4 (r:Rl):dIx (rlD r) (.int 2)=some (patD r.e2 r.p2):=rfl
theorem qhP (m:Mem) (r:Rl):view m (rlD r)=rlD r:=rfl
theorem qgn {ns:List (List Nat)} (N:GoodNs ns) (k d:D) (rs:List Rl) (hr:∀ r∈rs,GoodR ns r) (hl:rs.length≤1000) (m:Mem) :
  compL (gName 4) tYes zaj [some k,some d,none,some (.int 1),none] (rs.map rlD) [] m = .ok (rs.map fun r=>.int (unitsOf r.p1)) m ∧
  compL (gName 4) tYes zaj [some k,some d,none,some (.int 2),none] (rs.map rlD) [] m = .ok (rs.map fun r=>.int (unitsOf r.p2)) m:=by
 constructor
 ·have:=qb2 (g:=gName 4) (e:=zaj) (ρ:=[some k,some d,none,some (.int 1),none]) (m:=m) rlD (fun r=>.int (unitsOf r.p1)) rs [] (fun r h=>⟨_,rfl,by
   unfold zaj
   exact qcc (x:=patD r.e1 r.p1) (by simp_arith [qhP,qn3]) (GoodPs.nl N (hr r h).ps1 _) ⟨[],qhJ N (hr r h).ps1 _⟩ rfl⟩) (by simp; omega)
  rw [this,wax]
 ·have:=qb2 (g:=gName 4) (e:=zaj) (ρ:=[some k,some d,none,some (.int 2),none]) (m:=m) rlD (fun r=>.int (unitsOf r.p2)) rs [] (fun r h=>⟨_,rfl,by
   unfold zaj
   exact qcc (x:=patD r.e2 r.p2) (by simp_arith [qhP,qn4]) (GoodPs.nl N (hr r h).ps2 _) ⟨[],qhJ N (hr r h).ps2 _⟩ rfl⟩) (by simp; omega)
  rw [this,wax]
theorem qhQ {ks:Kd} (hk:ks.length≤1000) (N:GoodNs (nmsOf ks)) (rs:List Rl) (hr:∀ r∈rs,GoodR (nmsOf ks) r) (hl:rs.length≤12) :
  (uB rs≤12∧uA rs≤12→∃ m',zad [.lst (ks.map kdD),.lst (rs.map rlD)] [] = .ok .non m') ∧
  (¬ (uB rs≤12∧uA rs≤12)→∃ m',zad [.lst (ks.map kdD),.lst (rs.map rlD)] [] = .exc (.exc "NoBook" []) m'):=by
 have l0:=(qci hk (.lst (rs.map rlD)) none none [] (rs.map rlD) (fun d hd=>by
  obtain ⟨r,h,rfl⟩:=wae.mp hd
  exact (hr r h).ad N)).1 (wag.mpr fun d hd=>by
  obtain ⟨r,h,rfl⟩:=wae.mp hd
  exact (hr r h).ok N)
 have hi:dIsInst [.lst (rs.map rlD),.ty "list"]=some (.bl true):=qir _
 have ln:decide ((12:Int) < ((rs.map rlD).length:Nat))=false:=qeA (by rw [waa]; exact hl)
 obtain ⟨q1,q2⟩:=qgn N (.lst (ks.map kdD)) (.lst (rs.map rlD)) rs hr (by omega) []
 have s1:dSum [.lst (rs.map fun r=>.int (unitsOf r.p1))]=some (.int (uB rs)):=qd3 _ rs
 have s2:dSum [.lst (rs.map fun r=>.int (unitsOf r.p2))]=some (.int (uA rs)):=qd3 _ rs
 have st:∀ (i:Nat) (u:Int) (cs:List D),compL (gName 4) tYes zaj [some (.lst (ks.map kdD)),some (.lst (rs.map rlD)),none,some (.int (i:Nat)),none] (rs.map rlD) [] [] = .ok cs []→dSum [.lst cs]=some (.int u) →
   zaO [some (.lst (ks.map kdD)),some (.lst (rs.map rlD)),none,some (.int (i:Nat)),none] []=if 12 < u then .exc (.exc "NoBook" []) [some (.lst (ks.map kdD)),some (.lst (rs.map rlD)),none,some (.int (i:Nat)),none] [] else .nx [some (.lst (ks.map kdD)),some (.lst (rs.map rlD)),none,none,none] []:=by
  intro i u cs h1 h2
  unfold zaO
  generalize rs.map rlD=RS at h1 ⊢
  generalize zaj=E0 at h1 ⊢
  by_cases hu:12 < u
  ·have:decide (12 < u)=true:=decide_eq_true hu
   rw [if_pos hu]
   simp_arith [sW_a,h1,h2,this,qau]
  ·have:decide (12 < u)=false:=decide_eq_false hu
   rw [if_neg hu]
   simp_arith [sW_a,h1,h2,this]
 have st1:=st 1 (uB rs) _ q1 s1
 have st2:=st 2 (uA rs) _ q2 s2
 unfold zad za0
 generalize rs.map rlD=RS at l0 hi ln st1 st2 ⊢
 generalize zan=L0 at l0 ⊢
 generalize zaO=L1 at st1 st2 ⊢
 have i1:((1:Nat):Int)=1:=rfl
 have i2:((2:Nat):Int)=2:=rfl
 rw [i1] at st1
 rw [i2] at st2
 by_cases hu1:12 < uB rs
 ·refine ⟨fun h=>by omega,fun _=>⟨[],?_⟩⟩
  rw [if_pos hu1] at st1
  simp_arith [hi,ln,l0,qaL,st1]
 ·rw [if_neg hu1] at st1
  by_cases hu2:12 < uA rs
  ·refine ⟨fun h=>by omega,fun _=>⟨[],?_⟩⟩
   rw [if_pos hu2] at st2
   simp_arith [hi,ln,l0,qaL,st1,st2]
  ·refine ⟨fun _=>⟨[],?_⟩,fun h=>by omega⟩
   rw [if_neg hu2] at st2
   simp_arith [hi,ln,l0,qaL,st1,st2,qip]
theorem qdi {M:Bool} {n:Nat} {f:F} {l:EL} {ρ:Ev} {m m1:Mem} {ds:List D} {e:D} (hl:l ρ m = .ok ds m1) (hn:ds.length=n) (hd:noLocs ds=true) (hf:∃ m',f ds [] = .exc e m'):eCall M n f l ρ m = .exc e m1:=by
 obtain ⟨m',hf⟩:=hf
 unfold eCall
 rw [hl]
 simp only [R.bind_ok,hn,hd,and_self,if_true,hf]
theorem qfY (is:List Nat) (f:E) (ρ:Ev) (m:Mem):eLendS is f ρ m=lendR m (f (lendE is m ρ) []):=rfl
theorem qhR (e:D) (m m' : Mem):lendR m (.exc e m') = .exc e m:=rfl
theorem qfZ {b:Bool} {m:Mem} {d:D} (h:noLoc d=true):lendD b m (some d)=some d:=by
 have hh:hide (some d)=some d:=if_pos h
 cases d with
 | loc n=>cases h
 | _=>exact hh
theorem qiZ (is:List Nat) (m:Mem) (n:Nat) (h0:0∉is) {a b:D} (ha:noLoc a=true) (hb:noLoc b=true):lendE is m [some (.loc n),some a,some b]=[none,some a,some b]:=by
 have e:lendE is m [some (.loc n),some a,some b]=[lendD (decide (0∈is)) m (some (.loc n)),lendD (decide (1∈is)) m (some a),lendD (decide (2∈is)) m (some b)]:=rfl
 rw [e,qfZ ha,qfZ hb,decide_eq_false h0]
 rfl
theorem qlb (c f:PySem.Str) (v o:E) (ρ:Ev) (m:Mem):sSetF c f v o ρ m=(v ρ m).then ρ fun y m=>(o ρ m).then ρ fun x m=>setFAt c f y x ρ m:=rfl
theorem qhS {c f:PySem.Str} {y:D} {ρ:Ev} {m:Mem} {n:Nat} {fs:List (PySem.Str × D)} (h:m[n]? = some (.obj c fs)) (hl:fs.length < 1000):setFAt c f y (.loc n) ρ m = .nx ρ (m.set n (.obj c (putFD f y fs))):=by
 unfold setFAt
 simp only [h]
 exact if_pos ⟨trivial,hl⟩
def bookF (k r:List D):List (PySem.Str × D):=[("own_kinds",.lst k),("own_rules",.lst r)]
def bookD (k r:List D):D:=.obj "Book" (bookF k r)
theorem ownne:¬ (PySem.Str.ofString "own_kinds" = PySem.Str.ofString "own_rules"):=by decide +kernel
theorem put2 (v w:D):putFD (PySem.Str.ofString "own_rules") w [(PySem.Str.ofString "own_kinds",v)]=[(PySem.Str.ofString "own_kinds",v),(PySem.Str.ofString "own_rules",w)]:=
 (if_neg ownne:(if PySem.Str.ofString "own_kinds" = PySem.Str.ofString "own_rules" then [(PySem.Str.ofString "own_kinds",w)] else (PySem.Str.ofString "own_kinds",v)::putFD (PySem.Str.ofString "own_rules") w [])=_)
theorem qhT {kD rD:D} (nk:noLoc kD=true) (nr:noLoc rD=true) (h1:∃ m',zaf [kD] [] = .ok .non m') (h:∃ m',zad [kD,rD] [] = .exc (.exc "NoBook" []) m'):∃ m',zaa [.loc 0,kD,rD] [.obj "Book" []] = .exc (.exc "NoBook" []) m':=by
 have l1:=qiZ [1] [.obj "Book" []] 0 (by decide) nk nr
 have l2:=qiZ [1,2] [.obj "Book" []] 0 (by decide) nk nr
 have c1:∀ m,eCall false 1 zaf (lCons (eVar 1) lNil) [none,some kD,some rD] m = .ok .non m:=fun m=>qcc (x:=kD) rfl nk h1 rfl
 have c2:∀ m,eCall false 2 zad (lCons (eVar 1) (lCons (eVar 2) lNil)) [none,some kD,some rD] m = .exc (.exc "NoBook" []) m:=fun m=>qdi (ds:=[kD,rD]) (m1:=m) rfl rfl (by simp [noLocs,nk,nr]) h
 have fb:∀ m m',lendR m (.ok .non m') = .ok .non m:=fun _ _=>rfl
 refine ⟨[.obj "Book" []],?_⟩
 unfold zaa za4
 simp_arith [qfY,l1,l2,c1,c2,fb,qhR]
theorem qlc {k r:List D} (nk:noLocs k=true) (nr:noLocs r=true) (h1:∃ m',zaf [.lst k] [] = .ok .non m') (h:∃ m',zad [.lst k,.lst r] [] = .ok .non m'):zaa [.loc 0,.lst k,.lst r] [.obj "Book" []] = .ok .non [.obj "Book" (bookF k r)]:=by
 have l1:=qiZ [1] [.obj "Book" []] 0 (by decide) (a:=.lst k) (b:=.lst r) nk nr
 have l2:=qiZ [1,2] [.obj "Book" []] 0 (by decide) (a:=.lst k) (b:=.lst r) nk nr
 have c1:∀ m,eCall false 1 zaf (lCons (eVar 1) lNil) [none,some (.lst k),some (.lst r)] m = .ok .non m:=fun m=>qcc (x:=.lst k) rfl nk h1 rfl
 have c2:∀ m,eCall false 2 zad (lCons (eVar 1) (lCons (eVar 2) lNil)) [none,some (.lst k),some (.lst r)] m = .ok .non m:=fun m=>qe5 (x:=.lst k) (y:=.lst r) (m1:=m) rfl rfl nk nr h rfl
 have fb:∀ m m',lendR m (.ok .non m') = .ok .non m:=fun _ _=>rfl
 have s1:∀ ρ,setFAt "Book" "own_kinds" (.lst k) (.loc 0) ρ [.obj "Book" []] = .nx ρ [.obj "Book" [("own_kinds",.lst k)]]:=fun ρ=>qhS (m:=[.obj "Book" []]) (n:=0) rfl (by decide)
 have s2:∀ ρ,setFAt "Book" "own_rules" (.lst r) (.loc 0) ρ [.obj "Book" [("own_kinds",.lst k)]] = .nx ρ [.obj "Book" (bookF k r)]:=fun ρ=>by
  rw [qhS (m:=[.obj "Book" [("own_kinds",.lst k)]]) (n:=0) (fs:=[("own_kinds",.lst k)]) rfl (by show 1 < 1000; decide),put2]
  rfl
 unfold zaa za4
 simp_arith [qfY,l1,l2,c1,c2,fb,qlb,s1,s2]
theorem qjH (c:PySem.Str) (n:Nat) (f:F) (l:EL) (ρ:Ev) (m:Mem):eNew c n f l ρ m=(l ρ m).bind fun ds m=>if ds.length+1=n∧noLocs ds=true then newAt c (f (.loc 0::ds) [.obj c []]) m else .bad:=rfl
theorem qi0 {l:EL} {ρ:Ev} {m m1:Mem} {k r:List D} (hl:l ρ m = .ok [.lst k,.lst r] m1) (nk:noLocs k=true) (nr:noLocs r=true) (h1:∃ m',zaf [.lst k] [] = .ok .non m') (h:∃ m',zad [.lst k,.lst r] [] = .ok .non m'):eNew "Book" 3 zaa l ρ m = .ok (bookD k r) m1:=by
 have nn:noLocs [D.lst k,.lst r]=true:=by simp [noLocs,noLoc,nk,nr]
 rw [qjH,hl,R.bind_ok,if_pos ⟨rfl,nn⟩,qlc nk nr h1 h]
 have nf:noLocF (bookF k r)=true:=by simp [bookF,noLocF,noLoc,nk,nr]
 show (if ("Book" : PySem.Str) = "Book" ∧ noLocF (bookF k r)=true then R.ok (D.obj "Book" (bookF k r)) m1 else .bad)=_
 rw [if_pos ⟨rfl,nf⟩]
 rfl
theorem qld {l:EL} {ρ:Ev} {m m1:Mem} {kD rD e:D} (hl:l ρ m = .ok [kD,rD] m1) (nk:noLoc kD=true) (nr:noLoc rD=true) (h:∃ m',zaa [.loc 0,kD,rD] [.obj "Book" []] = .exc e m'):eNew "Book" 3 zaa l ρ m = .exc e m1:=by
 obtain ⟨m',h⟩:=h
 have nn:noLocs [kD,rD]=true:=by simp [noLocs,nk,nr]
 rw [qjH,hl,R.bind_ok,if_pos ⟨rfl,nn⟩,h]
 rfl
structure Kk (ks:Kd):Prop where
 o:OkK ks
 n:GoodNs (nmsOf ks)
 l8:∀ n∈nmsOf ks,n.length≤8
 ad:Ad (.lst (ks.map kdD))
theorem Kk.len {ks:Kd} (K:Kk ks):ks.length≤1000:=by have:=K.o.six; omega
theorem Kk.look {ks:Kd} (K:Kk ks):∃ m',zaf [.lst (ks.map kdD)] [] = .ok .non m':=(qm9 K.ad).1 K.o.ok
theorem qf0 (M:Bool) (c mn:PySem.Str) (n:Nat) (f:F) (o:E) (l:EL) (ρ:Ev) (m:Mem):eMethC M c mn n f o l ρ m=(o ρ m).bind fun x m=>match objAt c x m with
 | some fs=>if (fs.lookup mn).isNone=true then (l ρ m).bind fun ds m=>if ds.length+1=n then callF M f (x::ds) m else .bad else .bad
 | none=>.bad:=rfl
theorem qf1 {mn:PySem.Str} (h1:(mn == PySem.Str.ofString "own_kinds")=false) (h2:(mn == PySem.Str.ofString "own_rules")=false) (k r:List D):((bookF k r).lookup mn).isNone=true:=by
 have e:bookF k r=[(PySem.Str.ofString "own_kinds",D.lst k),(PySem.Str.ofString "own_rules",D.lst r)]:=rfl
 rw [e,wa7,h1]
 simp only []
 rw [wa7,h2]
 rfl
theorem qf2 {k r:List D} (nk:noLocs k=true) (nr:noLocs r=true):noLoc (bookD k r)=true:=by
 show noLocF (bookF k r)=true
 simp [bookF,noLocF,noLoc,nk,nr]
theorem qdD (k r:List D) (m:Mem):objAt "Book" (bookD k r) m=some (bookF k r):=(if_pos rfl:(if PySem.Str.ofString "Book" = PySem.Str.ofString "Book" then some (bookF k r) else none)=_)
theorem qle (k r:List D) (m:Mem):zai [bookD k r] m = .ok (.loc m.length) (m++[.lst k]):=rfl
theorem qhU (k r:List D) (m:Mem):zac [bookD k r] m = .ok (.loc m.length) (m++[.lst r]):=by
 have e:(bookF k r).lookup (PySem.Str.ofString "own_rules")=some (.lst r):=by
  show ([(PySem.Str.ofString "own_kinds",D.lst k),(PySem.Str.ofString "own_rules",D.lst r)]:List (PySem.Str × D)).lookup (PySem.Str.ofString "own_rules")=_
  have:(PySem.Str.ofString "own_rules" == PySem.Str.ofString "own_kinds")=false:=by decide +kernel
  rw [wa7,this]
  simp [wa7]
 have e2:eFld "Book" "own_rules" (eVar 0) [some (bookD k r)] m = .ok (.lst r) m:=by
  show R.of m ((bookF k r).lookup (PySem.Str.ofString "own_rules"))=_
  rw [e]
  rfl
 unfold zac zcz
 simp_arith [e2]
theorem qhV {M:Bool} {mn:PySem.Str} {f:F} {k r xs:List D} {i:Nat} {ρ:Ev} {m:Mem} (h1:(mn == PySem.Str.ofString "own_kinds")=false) (h2:(mn == PySem.Str.ofString "own_rules")=false) (nk:noLocs k=true) (nr:noLocs r=true) (nx:noLocs xs=true) (hi:ρ[i]? = some (some (bookD k r))) (hf:f [bookD k r] [] = .ok (.loc 0) [.lst xs]) :
  eMethC M "Book" mn 1 f (eVar i) lNil ρ m=mkL M xs m:=by
 have nb:noLocs [bookD k r]=true:=by simp [noLocs,qf2 nk nr]
 rw [qf0,qds,hi]
 simp only [R.bind_ok,qdD,qf1 h1 h2 k r,if_true,qdt,was,waU]
 unfold callF
 rw [if_pos nb,hf]
 simp only [waI,nx,if_true]
theorem qlf {M:Bool} {k r:List D} {i:Nat} {ρ:Ev} {m:Mem} (nk:noLocs k=true) (nr:noLocs r=true) (hi:ρ[i]? = some (some (bookD k r))):eMethC M "Book" "kinds" 1 zai (eVar i) lNil ρ m=mkL M k m:=
 qhV (by decide +kernel) (by decide +kernel) nk nr nk hi (qle k r [])
theorem qlg {M:Bool} {k r:List D} {i:Nat} {ρ:Ev} {m:Mem} (nk:noLocs k=true) (nr:noLocs r=true) (hi:ρ[i]? = some (some (bookD k r))):eMethC M "Book" "rules" 1 zac (eVar i) lNil ρ m=mkL M r m:=
 qhV (by decide +kernel) (by decide +kernel) nk nr nr hi (qhU k r [])
theorem qi1 (c:Int) (zs:List Int) (hl:zs.length≤1000) (hz:∀ z∈zs,0 < z∧z < 1267650600228229401496703205376):∃ xs:List Int,xs.length=zs.length∧(∀ (i:Nat) (x z:Int),xs[i]? = some x→zs[i]? = some z→0≤x∧x < z)∧∀ m,callF false zas [.int c,.lst (zs.map D.int)] m = .ok (.lst (xs.map D.int)) m:=by
 obtain ⟨xs,h1,h2,m',e⟩:=qk1 c zs hl hz
 refine ⟨xs,h1,h2,fun m=>qaY ?_ ⟨m',e⟩ (qas _ (fun _=>rfl) _)⟩
 show (true && (noLocs (zs.map D.int) && true))=true
 rw [qas D.int (fun _=>rfl)]; rfl
theorem qhW {xs:List Int} {i:Nat} {x:Int} (h:xs[i]? = some x):dIx (.lst (xs.map D.int)) (.int (i:Nat))=some (.int x):=qnW D.int h
theorem qaZ {x:Int} {z:Int} (h:0≤x∧x < z):∃ k:Nat,x=(k:Nat)∧(k:Int) < z:=by
 obtain ⟨k,rfl⟩:=Int.eq_ofNat_of_zero_le h.1
 exact ⟨k,rfl,h.2⟩
theorem qlh (ns:List Int) (k:Nat):∃ c:Int,∀ m,callF false zaq [.lst (ns.map D.int),.int (k:Nat)] m = .ok (.int c) m:=by
 obtain ⟨v,m',e⟩:=qm6 ns k
 refine ⟨v,fun m=>qaY ?_ ⟨m',e⟩ rfl⟩
 show (noLoc (D.lst (ns.map D.int)) && (true && true))=true
 rw [show noLoc (D.lst (ns.map D.int))=true from qas _ (fun _=>rfl) ns]; rfl
theorem qeB {α:Type} {g:T} {p:S} {ρ:Ev} {m:Mem} (i:α→D) (xs:List α) (h:∀ x∈xs,∃ ρ',g (i x) ρ=some ρ'∧p ρ' m = .nx ρ m):forL g p (xs.map i) ρ m = .nx ρ m:=
 qiO i (fun _=>ρ) (fun _=>m) xs fun d x r e=>h x (by rw [e]; simp)
theorem qnc {b:R D→F} {cs:List Nat} {eb:E} {ds:List D} {e d:D} {ρ:Ev} {m m1 m2:Mem} (hg:getC ρ cs=some ds) (hn:noLocs ds=true) (he:eb (ds.map some) [] = .exc e m1) (hb:b (.exc e []) [.loc 0] [.dead] = .ok d m2) (nl:noLoc d=true) (nx:noX d=true):eMkL b cs eb ρ m = .ok d m:=by
 unfold eMkL
 rw [hg]
 simp only []
 rw [if_pos hn]
 have:lamR eb ds = .exc e []:=by
  unfold lamR
  rw [he]
 rw [this,hb]
 simp only []
 rw [if_pos ⟨nl,nx⟩]
theorem qhX {g:T} {b:S} {d:D} {ds:List D} {ρ ρ1 ρ2:Ev} {m m2:Mem} (hg:g d ρ=some ρ1) (hb:b ρ1 m = .nx ρ2 m2):forL g b (d::ds) ρ m=forL g b ds ρ2 m2:=by
 rw [qaL,hg]
 simp -implicitDefEqProofs only [hb]
def upt (n:List Nat) (k:Nat):List Pt:=(if 0 < min 6 k then [⟨[[n]],min 6 k,some (min 6 k)⟩] else [])++(if 0 < k - 6 then [⟨[[n]],k - 6,some (k - 6)⟩] else [])
def uR (n:List Nat) (l r:Nat):Rl:=⟨true,false,upt n l,false,upt n r⟩
def cR82:Rl:=⟨false,false,[],false,[]⟩
def cnR (n:List Nat) (many l r:Nat):List Rl:=uR n l r::List.replicate many cR82
theorem qli {ns:List (List Nat)} {f:List Nat} (h:f∈ns):GoodC ns [f]:=by
 obtain ⟨i,hi,e⟩:=List.getElem_of_mem h
 exact ⟨[i],by simp,by simp,fun j hj=>by rw [waC.mp hj]; exact hi,by
  rw [List.map_singleton,waA,wan hi,e]; rfl⟩
theorem qeC (n:List Nat):∀ k,k≤12→unitsOf (upt n k)=(k:Nat)
 | 0,_=>rfl | 1,_=>rfl | 2,_=>rfl | 3,_=>rfl | 4,_=>rfl | 5,_=>rfl | 6,_=>rfl | 7,_=>rfl | 8,_=>rfl | 9,_=>rfl | 10,_=>rfl | 11,_=>rfl | 12,_=>rfl
 | k+13,h=>absurd h (by omega)
theorem tb82:∀ k,1≤k→k≤6→turnsB (.int (k:Nat)) (moD (some k))=true
 | 0,h,_=>absurd h (by omega)
 | 1,_,_=>by decide | 2,_,_=>by decide | 3,_,_=>by decide | 4,_,_=>by decide | 5,_,_=>by decide | 6,_,_=>by decide
 | k+7,_,h=>absurd h (by omega)
theorem qcT {ns:List (List Nat)} {n:List Nat} (hn:n∈ns) {k:Nat} (hk:k≤12):(∀ p∈upt n k,GoodP ns p)∧(upt n k).length≤2:=by
 have one:∀ j,0 < j→j≤6→GoodP ns ⟨[[n]],j,some j⟩:=fun j h0 h=>⟨fun c hc=>by
  have:c=[n]:=waC.mp hc
  rw [this]; exact qli hn,by show 1≤1; decide,by show 1≤3; decide,tb82 j h0 h,by show j≤6; exact h⟩
 unfold upt
 constructor
 ·intro p hp
  rcases wau.mp hp with hp | hp
  ·by_cases h:0 < min 6 k
   ·rw [if_pos h] at hp
    rw [waC.mp hp]; exact one _ h (by omega)
   ·rw [if_neg h] at hp; cases hp
  ·by_cases h:0 < k - 6
   ·rw [if_pos h] at hp
    rw [waC.mp hp]; exact one _ h (by omega)
   ·rw [if_neg h] at hp; cases hp
 ·rw [wao]
  have a:∀ (q:Prop) [Decidable q] (x:Pt),(if q then [x] else []).length≤1:=fun q _ x=>by split <;> simp
  have:=a (0 < min 6 k) ⟨[[n]],min 6 k,some (min 6 k)⟩
  have:=a (0 < k - 6) ⟨[[n]],k - 6,some (k - 6)⟩
  omega
theorem qlj {ns:List (List Nat)} {n:List Nat} (hn:n∈ns) {l r:Nat} (hl:l≤12) (hr:r≤12):GoodR ns (uR n l r):=⟨(qcT hn hl).1,(qcT hn hr).1,by have:=(qcT hn hl).2; show (upt n l).length≤5; omega,by have:=(qcT hn hr).2; show (upt n r).length≤5; omega⟩
theorem qlk (ns:List (List Nat)):GoodR ns cR82:=⟨fun _ h=>(by cases h),fun _ h=>(by cases h),waN _,waN _⟩
theorem qhY {ns:List (List Nat)} {n:List Nat} (hn:n∈ns) {many l r:Nat} (hl:l≤12) (hr:r≤12):∀ x∈cnR n many l r,GoodR ns x:=fun x hx=>by
 rcases wat.mp hx with rfl | hx
 ·exact qlj hn hl hr
 ·rw [List.eq_of_mem_replicate hx]; exact qlk ns
theorem qgo (a b:List Rl):uB (a++b)=uB a+uB b∧uA (a++b)=uA a+uA b:=by
 unfold uB uA
 rw [waP,List.sum_append,waP,List.sum_append]
 exact ⟨rfl,rfl⟩
theorem cn_u (n:List Nat) (many:Nat) {l r:Nat} (hl:l≤12) (hr:r≤12):uB (cnR n many l r)=(l:Nat)∧uA (cnR n many l r)=(r:Nat):=by
 have z:∀ m,uB (List.replicate m cR82)=0∧uA (List.replicate m cR82)=0:=by
  intro m
  induction m with
  | zero=>exact ⟨rfl,rfl⟩
  | succ m ih=>
   have h:=qgo [cR82] (List.replicate m cR82)
   have e:List.replicate (m+1) cR82=[cR82]++List.replicate m cR82:=rfl
   rw [e,h.1,h.2,ih.1,ih.2]
   exact ⟨rfl,rfl⟩
 have h:=qgo [uR n l r] (List.replicate many cR82)
 have e:cnR n many l r=[uR n l r]++List.replicate many cR82:=rfl
 rw [e,h.1,h.2,(z many).1,(z many).2]
 have a:uB [uR n l r]=(l:Nat):=by
  show unitsOf (upt n l)+0=_
  rw [qeC n l hl,wbF]
 have b:uA [uR n l r]=(r:Nat):=by
  show unitsOf (upt n r)+0=_
  rw [qeC n r hr,wbF]
 rw [a,b]
 exact ⟨wbF _,wbF _⟩
theorem qjI (n:List Nat) (many l r:Nat):(cnR n many l r).length=many+1:=by
 unfold cnR
 rw [wab,List.length_replicate]
theorem qhZ (n:List Nat) (l r:D) (xs:List D) (hx:xs=[]∨∃ p T,xs=[p]∧T=[Cell.dead]) (T:Mem) (hT:T=[]∨T=[.dead]):∀ k,k≤12→zaE [some (tx n),some l,some r,some (.loc 0),some (.int (k:Nat)),none,none] (.lst xs::T) = .nx [some (tx n),some l,some r,some (.loc 0),none,none,none] (.lst (xs++[patD false (upt n k)])::(T++[.dead])):=by
 intro k hk
 rcases hx with rfl | ⟨p,_,rfl,_⟩ <;> rcases hT with rfl | rfl <;> match k,hk with
 | 0,_=>rfl | 1,_=>rfl | 2,_=>rfl | 3,_=>rfl | 4,_=>rfl | 5,_=>rfl | 6,_=>rfl | 7,_=>rfl | 8,_=>rfl | 9,_=>rfl | 10,_=>rfl | 11,_=>rfl | 12,_=>rfl
 | k+13,h=>exact absurd h (by omega)
theorem qi2 (n:List Nat) {l r:Nat} (hl:l≤12) (hr:r≤12) {m:Mem}:callF false zaN [tx n,.int (l:Nat),.int (r:Nat)] m = .ok (rlD (uR n l r)) m:=by
 refine qaY rfl ⟨[.dead,.dead,.dead],?_⟩ ?_
 ·have lp:sFor (iSeq (eLst false (lCons (eVar 1) (lCons (eVar 2) lNil)))) (gName 4) zaE [some (tx n),some (.int (l:Nat)),some (.int (r:Nat)),some (.loc 0),none,none,none] [.lst []] = .nx [some (tx n),some (.int (l:Nat)),some (.int (r:Nat)),some (.loc 0),none,none,none] [.lst [patD false (upt n l),patD false (upt n r)],.dead,.dead]:=by
   refine qfN (ds:=[.int (l:Nat),.int (r:Nat)]) (m1:=[.lst []]) (ql5 (qaV (qaf (qal rfl) (qaf (qal rfl) qao)) (show 2≤16777216 by decide)) rfl) ?_
   refine (qhX (g:=gName 4) (d:=.int (l:Nat)) (ds:=[.int (r:Nat)]) rfl (qhZ n _ _ [] (.inl rfl) [] (.inl rfl) l hl)).trans ?_
   exact (qhX (g:=gName 4) (d:=.int (r:Nat)) (ds:=[]) rfl (qhZ n _ _ [patD false (upt n l)] (.inr ⟨_,_,rfl,rfl⟩) [.dead] (.inr rfl) r hr)).trans rfl
  have fz:sThenF (sFor (iSeq (eLst false (lCons (eVar 1) (lCons (eVar 2) lNil)))) (gName 4) zaE) 3 [some (tx n),some (.int (l:Nat)),some (.int (r:Nat)),some (.loc 0),none,none,none] [.lst []] = .nx [some (tx n),some (.int (l:Nat)),some (.int (r:Nat)),some (.lst [patD false (upt n l),patD false (upt n r)]),none,none,none] [.dead,.dead,.dead]:=by
   unfold sThenF
   rw [lp]
   rfl
  have wk:(D.str "keep")=tx (wdL true):=by show D.str (PySem.Str.ofString "keep")=_; rw [qhK]; rfl
  refine qd1 rfl (qar (ρ1:=[some (tx n),some (.int (l:Nat)),some (.int (r:Nat)),some (.loc 0),none,none,none]) (m1:=[.lst []]) rfl (qar fz (qd2 (qcw (qaf z_c (qaf (z_op (x:=.lst [patD false (upt n l),patD false (upt n r)]) (y:=.int 0) (qal rfl) z_c rfl) (qaf (z_op (x:=.lst [patD false (upt n l),patD false (upt n r)]) (y:=.int 1) (qal rfl) z_c rfl) qao))) (show 3≤16777216 by decide)))))
 ·have nl:∀ k,noLocs ((upt n k).map ptD)=true:=fun k=>qas ptD (fun p=>by
   show (noLocs (p.row.map chD) && (true && (noLoc (moD p.most) && true)))=true
   rw [qas chD (fun c=>qas tx (fun _=>rfl) c)]
   cases p.most <;> rfl) _
  show (true && ((true && (noLocs ((upt n l).map ptD) && true)) && ((true && (noLocs ((upt n r).map ptD) && true)) && true)))=true
  rw [nl l,nl r]; rfl
theorem qn5 (x:D):∀ k,k≤12→dMul (.lst [x]) (.int (k:Nat))=some (.lst (List.replicate k x))
 | 0,_=>rfl | 1,_=>rfl | 2,_=>rfl | 3,_=>rfl | 4,_=>rfl | 5,_=>rfl | 6,_=>rfl | 7,_=>rfl | 8,_=>rfl | 9,_=>rfl | 10,_=>rfl | 11,_=>rfl | 12,_=>rfl
 | k+13,h=>absurd h (by omega)
theorem cR_D:rlD cR82 = .tup [.str "cut",.tup [.bl false,.tup []],.tup [.bl false,.tup []]]:=by
 show D.tup [tx (wdL false),patD false [],patD false []]=_
 rw [show (D.str "cut")=tx (wdL false) by show D.str (PySem.Str.ofString "cut")=_; rw [qjG]; rfl]
 rfl
theorem qff {n:List Nat} {many l r:Nat}:noLocs ((cnR n many l r).map rlD)=true:=qas rlD (fun q=>by
 have nl:∀ ps:List Pt,noLocs (ps.map ptD)=true:=fun ps=>qas ptD (fun p=>by
   show (noLocs (p.row.map chD) && (true && (noLoc (moD p.most) && true)))=true
   rw [qas chD (fun c=>qas tx (fun _=>rfl) c)]
   cases p.most <;> rfl) _
 show (true && ((true && (noLocs (q.p1.map ptD) && true)) && ((true && (noLocs (q.p2.map ptD) && true)) && true)))=true
 rw [nl,nl]; rfl) _
theorem qjJ (n:List Nat) {many l r:Nat} (hm:many≤12) (hl:l≤12) (hr:r≤12) {m:Mem}:callF false zag [.lst [.int (many:Nat),.int (l:Nat),.int (r:Nat)],tx n] m = .ok (.lst ((cnR n many l r).map rlD)) m:=by
 refine qaY rfl ⟨[],?_⟩ qff
 let W:D:=.lst [.int (many:Nat),.int (l:Nat),.int (r:Nat)]
 let ρ (a5:Option D):Ev:=[some W,some (tx n),some (.int (many:Nat)),some (.int (l:Nat)),some (.int (r:Nat)),a5]
 have mul:=qn5 (rlD cR82) many hm
 have add:dAdd (.lst [rlD (uR n l r)]) (.lst (List.replicate many (rlD cR82)))=some (.lst ((cnR n many l r).map rlD)):=by
  show (if 1+(List.replicate many (rlD cR82)).length≤16777216 then some (D.lst ([rlD (uR n l r)]++List.replicate many (rlD cR82))) else none)=_
  rw [if_pos (by rw [List.length_replicate]; omega)]
  unfold cnR
  rw [wah,List.map_replicate]
  rfl
 have one:(1:Nat)≤16777216:=by decide
 have two:(2:Nat)≤16777216:=by decide
 have cr:eLst false (lCons (eTup (lCons (eC (.str "cut")) (lCons (eTup (lCons (eC (.bl false)) (lCons (eTup lNil) lNil))) (lCons (eTup (lCons (eC (.bl false)) (lCons (eTup lNil) lNil))) lNil)))) lNil) (ρ (some (.lst [rlD (uR n l r)]))) [] = .ok (.lst [rlD cR82]) []:=by
  rw [cR_D]
  exact qaV (qaf (qcw (qaf z_c (qaf (qcw (qaf z_c (qaf (qcw qao (waN _)) qao)) two) (qaf (qcw (qaf z_c (qaf (qcw qao (waN _)) qao)) two) qao))) (show 3≤16777216 by decide)) qao) one
 exact qd1 rfl (qar (ρ1:=ρ none) (qmt (qal rfl) rfl) (qar (ρ1:=ρ (some (.lst [rlD (uR n l r)]))) (qaN (qaV (qaf (qbu (qaf (qal rfl) (qaf (qal rfl) (qaf (qal rfl) qao))) rfl (qi2 n hl hr)) qao) one) rfl) (qd2 (z_op (x:=.lst [rlD (uR n l r)]) (y:=.lst (List.replicate many (rlD cR82))) (qal rfl) (z_op (x:=.lst [rlD cR82]) (y:=.int (many:Nat)) cr (qal rfl) mul) add))))
theorem qbJ (c d:PySem.Str) (b:Bool) (h:xtab_k82.lookup (c,d)=some b):dIsX xtab_k82 [.exc c [],.cls d]=some (.bl b):=by
 show (xtab_k82.lookup (c,d)).map D.bl=_
 rw [h]; rfl
theorem qjK (c:PySem.Str) (b:Bool) (h:xtab_k82.lookup (c,("ValueError" : PySem.Str))=some b):dIsX xtab_k82 [.exc c [],.ty "ValueError"]=some (.bl b):=by
 show (if "ValueError" = "ValueError" then (xtab_k82.lookup (c,("ValueError" : PySem.Str))).map D.bl else none)=_
 rw [if_pos rfl,h]; rfl
theorem qh0 {c:PySem.Str} {b1 b2 b3 b4 b5:Bool} {j:Nat} {ans:D} (h0:xtab_k82.lookup (c,("CutError" : PySem.Str))=some true) (hv:dIsX xtab_k82 [.exc c [],.ty "ValueError"]=some (.bl true)) (h1:dIsX xtab_k82 [.exc c [],.cls "NoRule"]=some (.bl b1)) (h2:dIsX xtab_k82 [.exc c [],.cls "TooMany"]=some (.bl b2)) (h3:dIsX xtab_k82 [.exc c [],.cls "Unlike"]=some (.bl b3)) (h4:dIsX xtab_k82 [.exc c [],.cls "NoBook"]=some (.bl b4)) (h5:dIsX xtab_k82 [.exc c [],.cls "NoKinds"]=some (.bl b5))
  (hc:mCount (.lst [.bl b1,.bl b2,.bl b3,.bl b4,.bl b5]) [.bl true]=some (.int 1)) (hi:mIndex (.lst [.bl b1,.bl b2,.bl b3,.bl b4,.bl b5]) [.bl true]=some (.int (j:Nat))) (ha:dIx (.lst [.str "rule",.str "many",.str "unlike",.str "book",.str "kinds"]) (.int (j:Nat))=some ans) (hn:noX ans=true) :
  zae (.exc (.exc c []) []) [.loc 0] [.dead] = .ok ans [.dead]:=by
 let ρ0:Ev:=[some (.loc 0),some .non,none,none]
 let ρ1 (a3:Option D):Ev:=[some (.loc 0),some (.exc c []),none,a3]
 have e1:∀ a3,eVar 1 (ρ1 a3) [.dead] = .ok (.exc c []) [.dead]:=fun a3=>qal rfl
 have is:∀ {a3:Option D} {d:D} {b:Bool},dIsX xtab_k82 [.exc c [],d]=some (.bl b)→view [.dead] d=d→eFun (dIsX xtab_k82) (lCons (eVar 1) (lCons (eC d) lNil)) (ρ1 a3) [.dead] = .ok (.bl b) [.dead]:=fun h vd=>qe3 (xs:=[.exc c [],_]) (qaf (qal rfl) (qaf z_c qao)) (by show dIsX xtab_k82 [.exc c [],view [.dead] _]=_; rw [vd]; exact h)
 have s1:sSet 3 (eLst false (lCons (eFun (dIsX xtab_k82) (lCons (eVar 1) (lCons (eC (.cls "NoRule")) lNil))) (lCons (eFun (dIsX xtab_k82) (lCons (eVar 1) (lCons (eC (.cls "TooMany")) lNil))) (lCons (eFun (dIsX xtab_k82) (lCons (eVar 1) (lCons (eC (.cls "Unlike")) lNil))) lNil)))) (ρ1 none) [.dead] = .nx (ρ1 (some (.lst [.bl b1,.bl b2,.bl b3]))) [.dead]:=qaN (qaV (qaf (is h1 rfl) (qaf (is h2 rfl) (qaf (is h3 rfl) qao))) (show 3≤16777216 by decide)) rfl
 have s2:sSet 3 (eOp dAdd (eVar 3) (eLst false (lCons (eFun (dIsX xtab_k82) (lCons (eVar 1) (lCons (eC (.cls "NoBook")) lNil))) (lCons (eFun (dIsX xtab_k82) (lCons (eVar 1) (lCons (eC (.cls "NoKinds")) lNil))) lNil)))) (ρ1 (some (.lst [.bl b1,.bl b2,.bl b3]))) [.dead] = .nx (ρ1 (some (.lst [.bl b1,.bl b2,.bl b3,.bl b4,.bl b5]))) [.dead]:=qaN (z_op (x:=.lst [.bl b1,.bl b2,.bl b3]) (y:=.lst [.bl b4,.bl b5]) (qal rfl) (qaV (qaf (is h4 rfl) (qaf (is h5 rfl) qao)) (show 2≤16777216 by decide)) rfl) rfl
 let L:D:=.lst [.bl b1,.bl b2,.bl b3,.bl b4,.bl b5]
 have mth:∀ {g:D→List D→Option D} {d:D},g L [.bl true]=some d→eMeth "list" g (eVar 3) (lCons (eC (.bl true)) lNil) (ρ1 (some L)) [.dead] = .ok d [.dead]:=fun h=>qjs (x:=L) (xs:=[.bl true]) (qal rfl) rfl (qaf z_c qao) h
 have rest:zay (.exc (.exc c []) []) (ρ1 none) [.dead] = .rt ans [.dead]:=by
  unfold zay
  refine qar (qcb (k:=false) (qaX (x:=.exc c []) (y:=.non) (qal rfl) z_c rfl) (by rw [if_neg wak]; exact qbH)) (qar s1 (qar s2 (qar (qcb (k:=false) (z_or (k:=false) (qaX (x:=.int 1) (y:=.int 1) (mth hc) z_c rfl) (by rw [if_neg wak]; exact qjr (qjq (x:=.bl true) (is hv rfl) rfl))) (by rw [if_neg wak]; exact qbH)) (qd2 (z_op (x:=.lst [.str "rule",.str "many",.str "unlike",.str "book",.str "kinds"]) (y:=.int (j:Nat)) (qaV (qaf z_c (qaf z_c (qaf z_c (qaf z_c (qaf z_c qao))))) (show 5≤16777216 by decide)) (mth hi) ha)))))
 have tr:sTryK xtab_k82 "CutError" 2 (zbg (.exc (.exc c []) [])) (za7 (.exc (.exc c []) [])) (zay (.exc (.exc c []) [])) ρ0 [.dead] = .rt ans [.dead]:=by
  unfold sTryK
  rw [show zbg (.exc (.exc c []) []) ρ0 [.dead] = .exc (.exc c []) ρ0 [.dead] from rfl]
  simp only [h0]
  rw [show za7 (.exc (.exc c []) []) (ρ0.set 2 (some (.exc c []))) [.dead] = .nx [some (.loc 0),some (.exc c []),some (.exc c []),none] [.dead] from rfl]
  show endX none (zay (.exc (.exc c []) []) (ρ1 none) [.dead])=_
  rw [rest]
  show (if noX ans=true then TT.O.rt ans (unM [.dead]) else .bad)=_
  rw [if_pos hn]; rfl
 exact qd1 rfl (qar (ρ1:=ρ0) (qaN z_c rfl) tr)
theorem qgp:zae (.exc (.exc "Unlike" []) []) [.loc 0] [.dead] = .ok (.str "unlike") [.dead]:=
 qh0 (b1:=false) (b2:=false) (b3:=true) (b4:=false) (b5:=false) (j:=2) (by decide +kernel) (qjK _ _ (by decide +kernel)) (qbJ _ _ _ (by decide +kernel)) (qbJ _ _ _ (by decide +kernel)) (qbJ _ _ _ (by decide +kernel)) (qbJ _ _ _ (by decide +kernel)) (qbJ _ _ _ (by decide +kernel)) rfl rfl rfl rfl
theorem qi3:zae (.exc (.exc "NoBook" []) []) [.loc 0] [.dead] = .ok (.str "book") [.dead]:=
 qh0 (b1:=false) (b2:=false) (b3:=false) (b4:=true) (b5:=false) (j:=3) (by decide +kernel) (qjK _ _ (by decide +kernel)) (qbJ _ _ _ (by decide +kernel)) (qbJ _ _ _ (by decide +kernel)) (qbJ _ _ _ (by decide +kernel)) (qbJ _ _ _ (by decide +kernel)) (qbJ _ _ _ (by decide +kernel)) rfl rfl rfl rfl
theorem qi4 (d:D):zae (.ok d []) [.loc 0] [.dead] = .ok (.str "told") [.dead]:=rfl
def nst (c:Int) (k:Nat):PySem.Str:=⟨(nmOf c k).toArray⟩
def sl82 (a b:Nat):List Nat:=cutD pln (some (a:Int)) (some (b:Int))
def pg82 (i:Nat):Nat:=pln.getD i 0
def fB82 (a:Nat):Bool:=goodS (sl82 a (a+2)) && (goodS (sl82 (a+3) (a+5)) && (goodS (sl82 (a+3) (a+6)) && (goodS [pg82 (a+8)] && (decide (∀ c∈sl82 a (a+2),c∉sl82 (a+3) (a+5)) && (decide (∀ c∈sl82 a (a+2),c∉sl82 (a+3) (a+6)) && (decide (∀ c∈sl82 (a+3) (a+5),c∉sl82 a (a+2)) && (decide (∀ c∈sl82 a (a+2),c∉[pg82 (a+8)]) && (decide (∀ c∈sl82 (a+3) (a+5),c∉[pg82 (a+8)]) && (decide ((sl82 a (a+2)).length=2) && (decide ((sl82 (a+3) (a+5)).length=2) && (decide ((sl82 (a+3) (a+6)).length=3) && decide (pln[a+8]? = some (pg82 (a+8))))))))))))))
theorem qnd:∀ a,a < 80→fB82 a=true:=by decide +kernel
structure F82 (a:Nat):Prop where
 g1:goodS (sl82 a (a+2))=true
 g2:goodS (sl82 (a+3) (a+5))=true
 g3:goodS (sl82 (a+3) (a+6))=true
 g4:goodS [pg82 (a+8)]=true
 d1:∀ c∈sl82 a (a+2),c∉sl82 (a+3) (a+5)
 d2:∀ c∈sl82 a (a+2),c∉sl82 (a+3) (a+6)
 d3:∀ c∈sl82 (a+3) (a+5),c∉sl82 a (a+2)
 d4:∀ c∈sl82 a (a+2),c∉[pg82 (a+8)]
 d5:∀ c∈sl82 (a+3) (a+5),c∉[pg82 (a+8)]
 l1:(sl82 a (a+2)).length=2
 l2:(sl82 (a+3) (a+5)).length=2
 l3:(sl82 (a+3) (a+6)).length=3
 ix:pln[a+8]? = some (pg82 (a+8))
theorem f82 {a:Nat} (h:a < 80):F82 a:=by
 have e:=qnd a h
 unfold fB82 at e
 simp only [wac,decide_eq_true_eq] at e
 obtain ⟨a1,a2,a3,a4,a5,a6,a7,a8,a9,b1,b2,b3,b4⟩:=e
 exact ⟨a1,a2,a3,a4,a5,a6,a7,a8,a9,b1,b2,b3,b4⟩
def kd1 (c:Int) (x:Nat × List Nat):PySem.Str × List Nat:=(nst c x.1,x.2)
def bsL (a:Nat):List (Nat × List Nat):=[(0,sl82 a (a+2)),(1,sl82 (a+3) (a+5))]
def otL (a:Nat):Nat→List (Nat × List Nat)
 | 0=>[(1,sl82 (a+3) (a+5)),(0,sl82 a (a+2))]
 | 1=>[(2,sl82 a (a+2)),(1,sl82 (a+3) (a+5))]
 | 2=>[(0,sl82 a (a+2)),(1,sl82 (a+3) (a+6))]
 | 3=>[(0,sl82 a (a+2))]
 | 4=>[(0,sl82 a (a+2)),(1,sl82 (a+3) (a+5)),(2,[pg82 (a+8)])]
 | _=>bsL a
def fnm:Nat→Nat
 | 0=>1
 | 1=>2
 | _=>0
theorem qjL (c:Int):∀ L:List (Nat × List Nat),(∀ x∈L,x.2.length≤3)→(flatK (L.map (kd1 c))).length≤3 * L.length
 | [],_=>waN _
 | x::L,h=>by
  have ih:=qjL c L fun y hy=>h y (waJ _ hy)
  have hx:=h x waw
  unfold flatK at ih ⊢
  rw [wah,wah,wbl,wao,wab]
  show x.2.length+_≤_
  omega
theorem kk82 (c:Int) {L:List (Nat × List Nat)} (hk:∀ x∈L,x.1 < 26) (nd:(L.map (·.1)).Nodup) (gs:∀ x∈L,goodS x.2=true) (dis:L.Pairwise fun p q=>∀ c∈p.2,c∉q.2) (len:L.length≤3) (sz:∀ x∈L,x.2.length≤3):Kk (L.map (kd1 c)):=by
 have nm:∀ x:Nat × List Nat,(kd1 c x).1.cps.toList=nmOf c x.1:=fun x=>by
  show (nmOf c x.1).toArray.toList=_
  simp
 have e:(L.map (kd1 c)).map (fun p=>p.1.cps.toList)=(L.map (·.1)).map (nmOf c):=by
  rw [waT,waT]
  exact wbg fun x _=>nm x
 have nn:((L.map (·.1)).map (nmOf c)).Nodup:=by
  rw [waV,wbz]
  refine List.Pairwise.imp_of_mem (fun {a b} ha hb h e=>h (qd4 c ?_ ?_ e)) nd
  ·obtain ⟨x,hx,rfl⟩:=wae.mp ha
   exact hk x hx
  ·obtain ⟨x,hx,rfl⟩:=wae.mp hb
   exact hk x hx
 refine ⟨⟨fun p hp=>?_,fun p hp=>?_,by rw [e]; exact nn,?_,by rw [waa]; omega,by have:=qjL c L sz; omega⟩,⟨?_,?_,?_,fun n hn=>?_⟩,fun n hn=>?_,?_⟩
 ·obtain ⟨x,hx,rfl⟩:=wae.mp hp
  rw [nm]; exact qhE c x.1
 ·obtain ⟨x,hx,rfl⟩:=wae.mp hp
  exact gs x hx
 ·rw [wbz]; exact dis
 ·unfold nmsOf
  rw [e,wbx]
  refine ⟨nn,by simp,fun a ha b hb=>?_⟩
  obtain ⟨k,_,rfl⟩:=wae.mp ha
  obtain rfl:=waC.mp hb
  exact qfa c k _ (.inl rfl)
 ·unfold nmsOf
  rw [wao,wbc]; omega
 ·unfold nmsOf
  rw [wao,wbc,waa,waa]; omega
 ·unfold nmsOf at hn
  rw [e] at hn
  rcases wau.mp hn with h | h
  ·obtain ⟨k,_,rfl⟩:=wae.mp h
   rw [qb3]
   have:=qbv c
   omega
  ·obtain rfl:=waC.mp h
   decide
 ·unfold nmsOf at hn
  rw [e] at hn
  rcases wau.mp hn with h | h
  ·obtain ⟨k,_,rfl⟩:=wae.mp h
   rw [qb3]
   exact (qbv c).2
  ·obtain rfl:=waC.mp h
   decide
 ·refine Ad.of fun d hd=>?_
  obtain ⟨p,hp,rfl⟩:=wae.mp hd
  obtain ⟨x,hx,rfl⟩:=wae.mp hp
  exact qfU (a:=tx (nmOf c x.1)) (b:=tx x.2) (qiW (by rw [qb3]; have:=qbv c; omega)) (qiW (by have:=sz x hx; omega))
theorem all1 {α:Type} {P:α→Prop} {x:α} (h:P x):∀ y∈[x],P y:=fun y hy=>by rw [waC.mp hy]; exact h
theorem qbl {α:Type} {P:α→Prop} {x:α} {l:List α} (h:P x) (t:∀ y∈l,P y):∀ y∈x::l,P y:=fun y hy=>(wat.mp hy).elim (fun e=>e ▸ h) (t y)
theorem qne (c:Int) {a:Nat} (F:F82 a):∀ d,Kk ((otL a d).map (kd1 c))
 | 0=>kk82 c (qbl (show (1:Nat) < 26 by decide) (all1 (show (0:Nat) < 26 by decide))) (show ([1,0]:List Nat).Nodup by decide) (qbl F.g2 (all1 F.g1)) (List.Pairwise.cons (all1 F.d3) (waR _ _)) (show (2:Nat)≤3 by decide) (qbl (by show (sl82 (a+3) (a+5)).length≤3; rw [F.l2]; decide) (all1 (by show (sl82 a (a+2)).length≤3; rw [F.l1]; decide)))
 | 1=>kk82 c (qbl (show (2:Nat) < 26 by decide) (all1 (show (1:Nat) < 26 by decide))) (show ([2,1]:List Nat).Nodup by decide) (qbl F.g1 (all1 F.g2)) (List.Pairwise.cons (all1 F.d1) (waR _ _)) (show (2:Nat)≤3 by decide) (qbl (by show (sl82 a (a+2)).length≤3; rw [F.l1]; decide) (all1 (by show (sl82 (a+3) (a+5)).length≤3; rw [F.l2]; decide)))
 | 2=>kk82 c (qbl (show (0:Nat) < 26 by decide) (all1 (show (1:Nat) < 26 by decide))) (show ([0,1]:List Nat).Nodup by decide) (qbl F.g1 (all1 F.g3)) (List.Pairwise.cons (all1 F.d2) (waR _ _)) (show (2:Nat)≤3 by decide) (qbl (by show (sl82 a (a+2)).length≤3; rw [F.l1]; decide) (all1 (by show (sl82 (a+3) (a+6)).length≤3; rw [F.l3]; decide)))
 | 3=>kk82 c (all1 (show (0:Nat) < 26 by decide)) (show ([0]:List Nat).Nodup by decide) (all1 F.g1) (waR _ _) (show (1:Nat)≤3 by decide) (all1 (by show (sl82 a (a+2)).length≤3; rw [F.l1]; decide))
 | 4=>kk82 c (qbl (show (0:Nat) < 26 by decide) (qbl (show (1:Nat) < 26 by decide) (all1 (show (2:Nat) < 26 by decide)))) (show ([0,1,2]:List Nat).Nodup by decide) (qbl F.g1 (qbl F.g2 (all1 F.g4))) (List.Pairwise.cons (qbl F.d1 (all1 F.d4)) (List.Pairwise.cons (all1 F.d5) (waR _ _))) (show (3:Nat)≤3 by decide) (qbl (by show (sl82 a (a+2)).length≤3; rw [F.l1]; decide) (qbl (by show (sl82 (a+3) (a+5)).length≤3; rw [F.l2]; decide) (all1 (by show 1≤3; decide))))
 | d+5=>kk82 c (L:=bsL a) (qbl (show (0:Nat) < 26 by decide) (all1 (show (1:Nat) < 26 by decide))) (show ([0,1]:List Nat).Nodup by decide) (qbl F.g1 (all1 F.g2)) (List.Pairwise.cons (all1 F.d1) (waR _ _)) (show (2:Nat)≤3 by decide) (qbl (by show (sl82 a (a+2)).length≤3; rw [F.l1]; decide) (all1 (by show (sl82 (a+3) (a+5)).length≤3; rw [F.l2]; decide)))
theorem qax (ks:Kd):isData (.lst (ks.map kdD))=true:=qbc fun x hx=>by
 obtain ⟨p,_,rfl⟩:=wae.mp hx
 rfl
theorem qbC (c:Int) (x y:Nat × List Nat):eqvD (kdD (kd1 c x)) (kdD (kd1 c y))=(decide (nmOf c x.1=nmOf c y.1) && decide (x.2=y.2)):=by
 show (eqvD (tx (nmOf c x.1)) (tx (nmOf c y.1)) && (eqvD (tx x.2) (tx y.2) && true))=_
 rw [qct,qct,Bool.and_true]
theorem qn6 (c:Int) {a:Nat} (F:F82 a) (d:Nat):dNe (kd ((bsL a).map (kd1 c))) (kd ((otL a d).map (kd1 c)))=some (decide (d < 5)):=by
 have nj:∀ {i j:Nat},i < 26→j < 26→i≠j→decide (nmOf c i=nmOf c j)=false:=fun hi hj h=>decide_eq_false fun e=>h (qd4 c hi hj e)
 have e:dNe (kd ((bsL a).map (kd1 c))) (kd ((otL a d).map (kd1 c)))=some (!eqvL (((bsL a).map (kd1 c)).map kdD) (((otL a d).map (kd1 c)).map kdD)):=by
  unfold dNe dEq
  rw [if_pos ⟨qax _,qax _⟩]
  rfl
 rw [e]
 congr 1
 match d with
 | 0=>
  show (!(eqvD (kdD (kd1 c (0,_))) (kdD (kd1 c (1,_))) && _))=true
  rw [qbC,nj (show 0 < 26 by decide) (show 1 < 26 by decide) (show (0:Nat)≠1 by decide)]; rfl
 | 1=>
  show (!(eqvD (kdD (kd1 c (0,_))) (kdD (kd1 c (2,_))) && _))=true
  rw [qbC,nj (show 0 < 26 by decide) (show 2 < 26 by decide) (show (0:Nat)≠2 by decide)]; rfl
 | 2=>
  show (!(eqvD (kdD (kd1 c (0,_))) (kdD (kd1 c (0,_))) && (eqvD (kdD (kd1 c (1,sl82 (a+3) (a+5)))) (kdD (kd1 c (1,sl82 (a+3) (a+6)))) && true)))=true
  have h:decide (sl82 (a+3) (a+5)=sl82 (a+3) (a+6))=false:=decide_eq_false fun e=>by
   have l2:=F.l2
   rw [e,F.l3] at l2
   cases l2
  rw [qbC c (1,sl82 (a+3) (a+5)),h,waY,wav,waY]; rfl
 | 3=>
  show (!(_ && false))=true
  rw [waY]; rfl
 | 4=>
  show (!(_ && (_ && false)))=true
  rw [waY,waY]; rfl
 | d+5=>
  have h:=qaS (qax ((bsL a).map (kd1 c)))
  unfold dNe dEq at h
  rw [if_pos ⟨qax _,qax _⟩] at h
  have h:some (!eqvL (((bsL a).map (kd1 c)).map kdD) (((bsL a).map (kd1 c)).map kdD))=some false:=h
  rw [show decide (d+5 < 5)=false from decide_eq_false (by omega)]
  exact Option.some.inj h
section
variable {ks qs:Kd} {rs1 rs2:List Rl}
def bk82 (ks:Kd) (rs:List Rl):D:=bookD (ks.map kdD) (rs.map rlD)
theorem qcj (nr:noLocs (rs1.map rlD)=true):noLoc (bk82 ks rs1)=true:=by simp [bk82,bookD,bookF,noLoc,noLocF,qaw ks,nr]
theorem qdE (nr:noLocs (rs1.map rlD)=true) {ρ:Ev} {m:Mem} {i:Nat} (hi:ρ[i]? = some (some (bk82 ks rs1))):eMethC false "Book" "kinds" 1 zai (eVar i) lNil ρ m = .ok (kd ks) m:=by
 rw [qlf (qaw ks) nr hi,qaH]; rfl
theorem qf3 (nr:noLocs (rs1.map rlD)=true) {ρ:Ev} {m:Mem} {i:Nat} (hi:ρ[i]? = some (some (bk82 ks rs1))):eMethC false "Book" "rules" 1 zac (eVar i) lNil ρ m = .ok (.lst (rs1.map rlD)) m:=by
 rw [qlg (qaw ks) nr hi,qaH]
theorem qn7 (nr:noLocs (rs1.map rlD)=true) {e:E} {ρ:Ev} {m m1:Mem} (he:e ρ m = .ok (bk82 ks rs1) m1):eMethC false "Book" "rules" 1 zac e lNil ρ m = .ok (.lst (rs1.map rlD)) m1:=by
 have nb:noLocs [bookD (ks.map kdD) (rs1.map rlD)]=true:=by simp [noLocs,qf2 (qaw ks) nr]
 have he:e ρ m = .ok (bookD (ks.map kdD) (rs1.map rlD)) m1:=he
 rw [qf0,he]
 simp only [R.bind_ok,qdD,qf1 (mn:="rules") (by decide +kernel) (by decide +kernel) (ks.map kdD) (rs1.map rlD),if_true,qdt,was,waU]
 unfold callF
 rw [if_pos nb,qhU]
 have nr' : noLocs (rs1.map rlD)=true:=nr
 simp only [was,wax,waI,nr',if_true]
 exact qaH _ _
theorem qfg (K:Kk ks) (g:∀ r∈rs1,GoodR (nmsOf ks) r) (l:rs1.length≤12) (u:uB rs1≤12∧uA rs1≤12) (nr:noLocs (rs1.map rlD)=true) {ls:EL} {ρ:Ev} {m m1:Mem} (hl:ls ρ m = .ok [.lst (ks.map kdD),.lst (rs1.map rlD)] m1):eNew "Book" 3 zaa ls ρ m = .ok (bk82 ks rs1) m1:=
 qi0 hl (qaw ks) nr K.look ((qhQ K.len K.n rs1 g l).1 u)
theorem qbD (n1:noLocs (rs1.map rlD)=true) (n2:noLocs (rs2.map rlD)=true):noLocs ((rs1++rs2).map rlD)=true:=by
 rw [waP]
 have:∀ a b:List D,noLocs a=true→noLocs b=true→noLocs (a++b)=true:=by
  intro a b ha hb
  induction a with
  | nil=>exact hb
  | cons x a ih=>
   have ha:(noLoc x && noLocs a)=true:=ha
   rw [wac] at ha
   show (noLoc x && noLocs (a++b))=true
   rw [ha.1,ih ha.2]; rfl
 exact this _ _ n1 n2
theorem qn8 (n1:noLocs (rs1.map rlD)=true) (n2:noLocs (rs2.map rlD)=true) (h:dNe (kd ks) (kd qs)=some true):zbZ [bk82 ks rs1,bk82 qs rs2] [] = .exc (.exc "Unlike" []) []:=
 qjt rfl (qkx (qcb (k:=true) (qaX (x:=kd ks) (y:=kd qs) (qdE n1 rfl) (qdE n2 rfl) h) (by rw [if_pos rfl]; exact qkH)))
theorem qh1 (n1:noLocs (rs1.map rlD)=true) (n2:noLocs (rs2.map rlD)=true) (l1:rs1.length≤12) (l2:rs2.length≤12):(lCons (eMethC false "Book" "kinds" 1 zai (eVar 0) lNil) (lCons (eOp dAdd (eMethC false "Book" "rules" 1 zac (eVar 0) lNil) (eMethC false "Book" "rules" 1 zac (eVar 1) lNil)) lNil)) [some (bk82 ks rs1),some (bk82 ks rs2)] [] = .ok [.lst (ks.map kdD),.lst ((rs1++rs2).map rlD)] []:=
 qaf (qdE n1 rfl) (qaf (z_op (x:=.lst (rs1.map rlD)) (y:=.lst (rs2.map rlD)) (qf3 n1 rfl) (qf3 n2 rfl) (by
  rw [waP]
  show (if (rs1.map rlD).length+(rs2.map rlD).length≤16777216 then _ else none)=_
  rw [if_pos (by rw [waa,waa]; omega)])) qao)
theorem qh2 (n1:noLocs (rs1.map rlD)=true) (n2:noLocs (rs2.map rlD)=true):sIf (tCmp dNe (eMethC false "Book" "kinds" 1 zai (eVar 0) lNil) (eMethC false "Book" "kinds" 1 zai (eVar 1) lNil)) (sRaise "Unlike") sNext [some (bk82 ks rs1),some (bk82 ks rs2)] [] = .nx [some (bk82 ks rs1),some (bk82 ks rs2)] []:=
 qcb (k:=false) (qaX (x:=kd ks) (y:=kd ks) (qdE n1 rfl) (qdE n2 rfl) (qaS (qax ks))) (by rw [if_neg wak]; exact qbH)
theorem qn9 (K:Kk ks) (g:∀ r∈rs1++rs2,GoodR (nmsOf ks) r) (n1:noLocs (rs1.map rlD)=true) (n2:noLocs (rs2.map rlD)=true) (l1:rs1.length≤12) (l2:rs2.length≤12) (h:¬ ((rs1++rs2).length≤12∧uB (rs1++rs2)≤12∧uA (rs1++rs2)≤12)):zbZ [bk82 ks rs1,bk82 ks rs2] [] = .exc (.exc "NoBook" []) []:=by
 have bad:∃ m',zad [.lst (ks.map kdD),.lst ((rs1++rs2).map rlD)] [] = .exc (.exc "NoBook" []) m':=by
  by_cases hl:(rs1++rs2).length≤12
  ·exact (qhQ K.len K.n (rs1++rs2) g hl).2 fun u=>h ⟨hl,u⟩
  ·exact qfe K.len rfl (.inr ⟨_,rfl,.inl (by rw [waa]; omega)⟩)
 exact qjt rfl (qar (qh2 n1 n2) (qmr (qld (qh1 n1 n2 l1 l2) (qaw ks) (qbD n1 n2) (qhT (qaw ks) (qbD n1 n2) K.look bad))))
theorem qnf (K:Kk ks) (g:∀ r∈rs1++rs2,GoodR (nmsOf ks) r) (n1:noLocs (rs1.map rlD)=true) (n2:noLocs (rs2.map rlD)=true) (l1:rs1.length≤12) (l2:rs2.length≤12) (h:(rs1++rs2).length≤12∧uB (rs1++rs2)≤12∧uA (rs1++rs2)≤12):zbZ [bk82 ks rs1,bk82 ks rs2] [] = .ok (bk82 ks (rs1++rs2)) []:=
 qd1 rfl (qar (qh2 n1 n2) (qd2 (qfg K g h.1 h.2 (qbD n1 n2) (qh1 n1 n2 l1 l2))))
end
theorem qng {b:R D→F} {cs:List Nat} {eb:E} {ds:List D} {e d:D} {ρ:Ev} {m m1 m2:Mem} (hg:getC ρ cs=some ds) (hn:noLocs ds=true) (he:eb (ds.map some) [] = .ok e m1) (ne:noLoc e=true) (hb:b (.ok e []) [.loc 0] [.dead] = .ok d m2) (nl:noLoc d=true) (nx:noX d=true):eMkL b cs eb ρ m = .ok d m:=by
 unfold eMkL
 rw [hg]
 simp only []
 rw [if_pos hn]
 have:lamR eb ds = .ok e []:=by
  unfold lamR
  rw [he]
  simp only []
  rw [if_pos ne]
 rw [this,hb]
 simp only []
 rw [if_pos ⟨nl,nx⟩]
section
variable {ks qs:Kd} {rs1 rs2:List Rl}
def ansD (un:Bool) (fit:Bool):D:=if un=true then .str "unlike" else if fit=true then .str "told" else .str "book"
def fitB (r1 r2:List Rl):Bool:=decide ((r1++r2).length≤12∧uB (r1++r2)≤12∧uA (r1++r2)≤12)
theorem qnh {un:Bool} (K:Kk ks) (n1:noLocs (rs1.map rlD)=true) (n2:noLocs (rs2.map rlD)=true) (l1:rs1.length≤12) (l2:rs2.length≤12) (hu:dNe (kd ks) (kd qs)=some un) (he:un=false→qs=ks) (g:un=false→∀ r∈rs1++rs2,GoodR (nmsOf ks) r)
  {cs:List Nat} {i j:Nat} {ds:List D} {ρ:Ev} {m:Mem} (hg:getC ρ cs=some ds) (hds:noLocs ds=true) (hi:(ds.map some)[i]? = some (some (bk82 ks rs1))) (hj:(ds.map some)[j]? = some (some (bk82 qs rs2))) :
  eMkL zae cs (eCall false 2 zbZ (lCons (eVar i) (lCons (eVar j) lNil))) ρ m = .ok (ansD un (fitB rs1 rs2)) m:=by
 have b1:noLoc (bk82 ks rs1)=true:=qcj n1
 have b2:noLoc (bk82 qs rs2)=true:=qcj n2
 have hn:noLocs [bk82 ks rs1,bk82 qs rs2]=true:=by show (noLoc _ && (noLoc _ && true))=true; rw [b1,b2]; rfl
 have args:(lCons (eVar i) (lCons (eVar j) lNil)) (ds.map some) [] = .ok [bk82 ks rs1,bk82 qs rs2] []:=qaf (qal hi) (qaf (qal hj) qao)
 cases un with
 | true=>exact qnc hg hds (qdi (ds:=[bk82 ks rs1,bk82 qs rs2]) (m1:=[]) args rfl hn ⟨[],qn8 n1 n2 hu⟩) qgp rfl rfl
 | false=>
  have eq:=he rfl
  subst eq
  by_cases h:(rs1++rs2).length≤12∧uB (rs1++rs2)≤12∧uA (rs1++rs2)≤12
  ·have e:fitB rs1 rs2=true:=decide_eq_true h
   rw [e]
   have nb:noLoc (bk82 qs (rs1++rs2))=true:=qcj (qbD n1 n2)
   exact qng hg hds (qbu args rfl (qaY hn ⟨[],qnf K (g rfl) n1 n2 l1 l2 h⟩ nb)) nb (qi4 _) rfl rfl
  ·have e:fitB rs1 rs2=false:=decide_eq_false h
   rw [e]
   exact qnc hg hds (qdi (ds:=[bk82 qs rs1,bk82 qs rs2]) (m1:=[]) args rfl hn ⟨[],qn9 K (g rfl) n1 n2 l1 l2 h⟩) qi3 rfl rfl
end
theorem qi5 (r1 r2:List Rl):fitB r2 r1=fitB r1 r2:=by
 unfold fitB
 have a:=qgo r1 r2
 have b:=qgo r2 r1
 rw [a.1,a.2,b.1,b.2,wao,wao]
 refine decide_eq_decide.mpr ⟨fun h=>⟨?_,?_,?_⟩,fun h=>⟨?_,?_,?_⟩⟩ <;> omega
theorem qni (c:Int) {a:Nat} (F:F82 a) (d:Nat):dNe (kd ((otL a d).map (kd1 c))) (kd ((bsL a).map (kd1 c)))=some (decide (d < 5)):=by
 have nj:∀ {i j:Nat},i < 26→j < 26→i≠j→decide (nmOf c i=nmOf c j)=false:=fun hi hj h=>decide_eq_false fun e=>h (qd4 c hi hj e)
 have e:dNe (kd ((otL a d).map (kd1 c))) (kd ((bsL a).map (kd1 c)))=some (!eqvL (((otL a d).map (kd1 c)).map kdD) (((bsL a).map (kd1 c)).map kdD)):=by
  unfold dNe dEq
  rw [if_pos ⟨qax _,qax _⟩]
  rfl
 rw [e]
 congr 1
 match d with
 | 0=>
  show (!(eqvD (kdD (kd1 c (1,_))) (kdD (kd1 c (0,_))) && _))=true
  rw [qbC,nj (show 1 < 26 by decide) (show 0 < 26 by decide) (show (1:Nat)≠0 by decide)]; rfl
 | 1=>
  show (!(eqvD (kdD (kd1 c (2,_))) (kdD (kd1 c (0,_))) && _))=true
  rw [qbC,nj (show 2 < 26 by decide) (show 0 < 26 by decide) (show (2:Nat)≠0 by decide)]; rfl
 | 2=>
  show (!(eqvD (kdD (kd1 c (0,_))) (kdD (kd1 c (0,_))) && (eqvD (kdD (kd1 c (1,sl82 (a+3) (a+6)))) (kdD (kd1 c (1,sl82 (a+3) (a+5)))) && true)))=true
  have h:decide (sl82 (a+3) (a+6)=sl82 (a+3) (a+5))=false:=decide_eq_false fun e=>by
   have l2:=F.l3
   rw [e,F.l2] at l2
   cases l2
  rw [qbC c (1,sl82 (a+3) (a+6)),h,waY,wav,waY]; rfl
 | 3=>
  show (!(_ && false))=true
  rw [waY]; rfl
 | 4=>
  show (!(_ && (_ && false)))=true
  rw [waY,waY]; rfl
 | d+5=>
  have h:=qaS (qax ((bsL a).map (kd1 c)))
  unfold dNe dEq at h
  rw [if_pos ⟨qax _,qax _⟩] at h
  have h:some (!eqvL (((bsL a).map (kd1 c)).map kdD) (((bsL a).map (kd1 c)).map kdD))=some false:=h
  rw [show decide (d+5 < 5)=false from decide_eq_false (by omega)]
  exact Option.some.inj h
theorem qdj {ks:Kd} (K:Kk ks) {rs:List Rl} (g:∀ r∈rs,GoodR (nmsOf ks) r):isData (.lst (rs.map rlD))=true:=qbc fun x hx=>by
 obtain ⟨r,hr,rfl⟩:=wae.mp hx
 have a:=qcg ((g r hr).ps1.sd K.n r.e1)
 have b:=qcg ((g r hr).ps2.sd K.n r.e2)
 show (true && (dataN 14 (patD r.e1 r.p1) && (dataN 14 (patD r.e2 r.p2) && true)))=true
 rw [qfb a (by decide),qfb b (by decide)]; rfl
theorem qnj {A B:D} {u:Bool} {ds:List Int} {d1 d2 d4 d5:Nat} {r1 r2:List Rl} (nA:noLoc A=true) (nB:noLoc B=true) (n1:noLocs (r1.map rlD)=true) (n2:noLocs (r2.map rlD)=true) (h:∀ m,dNe (view m A) (view m B)=some u)
  (i1:ds[1]? = some ((d1:Nat):Int)) (i2:ds[2]? = some ((d2:Nat):Int)) (i4:ds[4]? = some ((d4:Nat):Int)) (i5:ds[5]? = some ((d5:Nat):Int)) (ub:uB (r1++r2)=(d1+d4:Nat)) (ua:uA (r1++r2)=(d2+d5:Nat)) {m:Mem} :
  callF false zar [A,B,.lst (r1.map rlD),.lst (r2.map rlD),.lst (ds.map D.int)] m = .ok (ansD u (fitB r1 r2)) m:=by
 have an:noLoc (ansD u (fitB r1 r2))=true:=by
  unfold ansD
  cases u <;> cases fitB r1 r2 <;> rfl
 refine qaY (by
  show (noLoc A && (noLoc B && (noLocs (r1.map rlD) && (noLocs (r2.map rlD) && (noLocs (ds.map D.int) && true)))))=true
  rw [nA,nB,n1,n2,qas D.int (fun _=>rfl)]; rfl) ⟨[],?_⟩ an
 let ρ:Ev:=[some A,some B,some (.lst (r1.map rlD)),some (.lst (r2.map rlD)),some (.lst (ds.map D.int))]
 have t0:tCmp dNe (eVar 0) (eVar 1) ρ [] = .ok u []:=qaX (x:=A) (y:=B) (qal rfl) (qal rfl) (h [])
 cases u with
 | true=>exact qd1 rfl (qhi (qcb t0 (by rw [if_pos rfl]; exact qd2 z_c)))
 | false=>
  have ix:∀ {k:Nat} {d:Nat},ds[k]? = some ((d:Nat):Int)→eOp dIx (eVar 4) (eC (.int (k:Nat))) ρ [] = .ok (.int (d:Nat)) []:=fun h=>z_op (x:=.lst (ds.map D.int)) (qal rfl) z_c (qhW h)
  have sm:∀ {k l a b:Nat},ds[k]? = some ((a:Nat):Int)→ds[l]? = some ((b:Nat):Int)→tCmp dGt (eOp dAdd (eOp dIx (eVar 4) (eC (.int (k:Nat)))) (eOp dIx (eVar 4) (eC (.int (l:Nat))))) (eC (.int 12)) ρ [] = .ok (decide (12 < a+b)) []:=fun h1 h2=>qaX (x:=.int ((_+_:Nat):Int)) (y:=.int ((12:Nat):Int)) (z_op (x:=.int (_:Nat)) (y:=.int (_:Nat)) (ix h1) (ix h2) rfl) z_c (qkU _ _)
  have ln:tCmp dGt (eOp dAdd (eFun dLen (lCons (eVar 2) lNil)) (eFun dLen (lCons (eVar 3) lNil))) (eC (.int 12)) ρ [] = .ok (decide (12 < r1.length+r2.length)) []:=qaX (x:=.int ((r1.length+r2.length:Nat):Int)) (y:=.int ((12:Nat):Int)) (z_op (x:=.int (r1.length:Nat)) (y:=.int (r2.length:Nat)) (qe3 (qaf (qal rfl) qao) (qfO rlD r1)) (qe3 (qaf (qal rfl) qao) (qfO rlD r2)) rfl) z_c (qkU _ _)
  have t:=qiM ln (qiM (sm (k:=1) (l:=4) i1 i4) (sm (k:=2) (l:=5) i2 i5))
  have e:(decide (12 < r1.length+r2.length) || (decide (12 < d1+d4) || decide (12 < d2+d5))) = !fitB r1 r2:=by
   unfold fitB
   rw [ub,ua,wao]
   by_cases q1:12 < r1.length+r2.length
   ·rw [decide_eq_true q1,decide_eq_false (p:=_∧_) (by omega),Bool.true_or]; rfl
   by_cases q2:12 < d1+d4
   ·rw [decide_eq_true q2,decide_eq_false (p:=_∧_) (by omega),Bool.true_or,wbE]; rfl
   by_cases q3:12 < d2+d5
   ·rw [decide_eq_true q3,decide_eq_false (p:=_∧_) (by omega),wbE,wbE]; rfl
   rw [decide_eq_false q1,decide_eq_false q2,decide_eq_false q3,decide_eq_true (p:=_∧_) (by omega)]; rfl
  rw [e] at t
  have s0:=qcb (p:=sRet (eC (.str "unlike"))) (q:=sNext) (o:=.nx ρ []) t0 (by rw [if_neg wak]; exact qbH)
  cases hf:fitB r1 r2 with
  | true=>
   rw [hf] at t
   exact qd1 rfl (qar s0 (qar (qcb t (by show (if (!true)=true then _ else _)=_; rw [if_neg (by decide)]; exact qbH)) (qd2 z_c)))
  | false=>
   rw [hf] at t
   exact qd1 rfl (qar s0 (qhi (qcb t (by show (if (!false)=true then _ else _)=_; rw [if_pos (by decide)]; exact qd2 z_c))))
theorem qll {m:Mem}:callF false zaC [] m = .ok (tx pln) m:=qaY rfl ⟨[],qk3 []⟩ rfl
theorem qlm (c:Int) {m:Mem}:callF false zaz [.int c,.int 3] m = .ok (.lst [tx (nmOf c 0),tx (nmOf c 1),tx (nmOf c 2)]) m:=by
 obtain ⟨m',e⟩:=qk2 c 3 (by decide)
 exact qaY rfl ⟨m',e⟩ rfl
theorem qnk (a b:Nat):dCut (some ((a:Nat):Int)) (some ((b:Nat):Int)) (tx pln)=some (tx (sl82 a b)):=by
 show (if (PySem.Str.mk pln.toArray).length≤16777216 then some (D.str ⟨(cutD pln.toArray.toList (some (a:Int)) (some (b:Int))).toArray⟩) else none)=_
 rw [if_pos (by decide +kernel)]
 rfl
theorem qnl (x:D):dMul (.lst [x]) (.int 7)=some (.lst [x,x,x,x,x,x,x]):=rfl
theorem qoa (c:Int) (a:Nat):∀ d,d < 12→dIx (.lst [kd ((otL a 0).map (kd1 c)),kd ((otL a 1).map (kd1 c)),kd ((otL a 2).map (kd1 c)),kd ((otL a 3).map (kd1 c)),kd ((otL a 4).map (kd1 c)),kd ((bsL a).map (kd1 c)),kd ((bsL a).map (kd1 c)),kd ((bsL a).map (kd1 c)),kd ((bsL a).map (kd1 c)),kd ((bsL a).map (kd1 c)),kd ((bsL a).map (kd1 c)),kd ((bsL a).map (kd1 c))]) (.int (d:Nat))=some (kd ((otL a d).map (kd1 c)))
 | 0,_=>rfl | 1,_=>rfl | 2,_=>rfl | 3,_=>rfl | 4,_=>rfl | 5,_=>rfl | 6,_=>rfl | 7,_=>rfl | 8,_=>rfl | 9,_=>rfl | 10,_=>rfl | 11,_=>rfl
 | d+12,h=>absurd h (by omega)
theorem qln (c:Int) (a:Nat):∀ d,∃ s,dIx (kd ((otL a d).map (kd1 c))) (.int 0)=some (.tup [tx (nmOf c (fnm d)),tx s])
 | 0=>⟨_,rfl⟩ | 1=>⟨_,rfl⟩ | 2=>⟨_,rfl⟩ | 3=>⟨_,rfl⟩ | 4=>⟨_,rfl⟩
 | d+5=>⟨_,rfl⟩
theorem qjM (c:Int) (a:Nat):∀ d,nmOf c (fnm d)∈nmsOf ((otL a d).map (kd1 c))
 | 0=>waS _ waw
 | 1=>waS _ waw
 | 2=>waS _ waw
 | 3=>waS _ waw
 | 4=>waS _ waw
 | d+5=>waS _ waw
theorem qlo (a:Nat):∀ d,5≤d→otL a d=bsL a
 | d+5,_=>rfl
 | 0,h=>absurd h (by decide) | 1,h=>absurd h (by decide) | 2,h=>absurd h (by decide) | 3,h=>absurd h (by decide) | 4,h=>absurd h (by decide)
noncomputable def rho82 (x0 x1 x2 x3 x4 x5 x6 x7 x8 x9 x10 x11 x12 x13 x14:Option D):Ev:=[x0,x1,x2,x3,x4,x5,x6,x7,x8,x9,x10,x11,x12,x13,x14]
theorem qjN (u f:Bool):dNe (ansD u f) (ansD u f)=some false:=by cases u <;> cases f <;> exact qaS rfl
theorem qi6 (u f:Bool):dEq (ansD u f) (.str "told")=some (!u && f):=by cases u <;> cases f <;> decide +kernel
theorem qi7 (u f:Bool):view [] (ansD u f)=ansD u f:=by cases u <;> cases f <;> rfl
theorem qnm (ns:List Int) (k:Nat):zdx (rho82 (some (.lst (ns.map D.int))) (some (.int (k:Nat))) none none none none none none none none none none none none none) [] = .nx (rho82 (some (.lst (ns.map D.int))) none none none none none none none none none none none none none none) []:=by
 let NS:D:=.lst (ns.map D.int)
 obtain ⟨c,kc⟩:=qlh ns k
 obtain ⟨xs,h1,h2,dr⟩:=qi1 c [12,13,13,12,13,13,12,17576,80] (by decide) (by decide)
 match xs,h1 with
 | [w0,w1,w2,w3,w4,w5,w6,w7,w8],_=>
  obtain ⟨d0,rfl,b0⟩:=qaZ (h2 0 w0 12 rfl rfl)
  obtain ⟨d1,rfl,b1⟩:=qaZ (h2 1 w1 13 rfl rfl)
  obtain ⟨d2,rfl,b2⟩:=qaZ (h2 2 w2 13 rfl rfl)
  obtain ⟨d3,rfl,b3⟩:=qaZ (h2 3 w3 12 rfl rfl)
  obtain ⟨d4,rfl,b4⟩:=qaZ (h2 4 w4 13 rfl rfl)
  obtain ⟨d5,rfl,b5⟩:=qaZ (h2 5 w5 13 rfl rfl)
  obtain ⟨d6,rfl,b6⟩:=qaZ (h2 6 w6 12 rfl rfl)
  obtain ⟨d7,rfl,b7⟩:=qaZ (h2 7 w7 17576 rfl rfl)
  obtain ⟨at0,rfl,b8⟩:=qaZ (h2 8 w8 80 rfl rfl)
  clear h2
  let ds:List Int:=[((d0:Nat):Int),((d1:Nat):Int),((d2:Nat):Int),((d3:Nat):Int),((d4:Nat):Int),((d5:Nat):Int),((d6:Nat):Int),((d7:Nat):Int),((at0:Nat):Int)]
  let DS:D:=.lst (ds.map D.int)
  have dr:∀ m,callF false zas [.int c,.lst [.int 12,.int 13,.int 13,.int 12,.int 13,.int 13,.int 12,.int 17576,.int 80]] m = .ok DS m:=dr
  let q:Int:=((d7:Nat):Int)
  have F:=f82 (a:=at0) (by omega)
  let NM:D:=.lst [tx (nmOf q 0),tx (nmOf q 1),tx (nmOf q 2)]
  let ks:Kd:=(bsL at0).map (kd1 q)
  let qs:Kd:=(otL at0 d6).map (kd1 q)
  let r1:List Rl:=cnR (nmOf q 0) d0 d1 d2
  let r2:List Rl:=cnR (nmOf q (fnm d6)) d3 d4 d5
  have K:Kk ks:=qne q F 5
  have Q:Kk qs:=qne q F d6
  have n1:noLocs (r1.map rlD)=true:=qff
  have n2:noLocs (r2.map rlD)=true:=qff
  have g1:∀ r∈r1,GoodR (nmsOf ks) r:=qhY (qjM q at0 5) (by omega) (by omega)
  have g2:∀ r∈r2,GoodR (nmsOf qs) r:=qhY (qjM q at0 d6) (by omega) (by omega)
  have l1:r1.length≤12:=by rw [show r1.length=d0+1 from qjI _ _ _ _]; omega
  have l2:r2.length≤12:=by rw [show r2.length=d3+1 from qjI _ _ _ _]; omega
  have u1:=cn_u (nmOf q 0) d0 (l:=d1) (r:=d2) (by omega) (by omega)
  have u2:=cn_u (nmOf q (fnm d6)) d3 (l:=d4) (r:=d5) (by omega) (by omega)
  have ub:uB (r1++r2)=(d1+d4:Nat):=by
   rw [(qgo r1 r2).1,show uB r1=(d1:Nat) from u1.1,show uB r2=(d4:Nat) from u2.1]; omega
  have ua:uA (r1++r2)=(d2+d5:Nat):=by
   rw [(qgo r1 r2).2,show uA r1=(d2:Nat) from u1.2,show uA r2=(d5:Nat) from u2.2]; omega
  let u:Bool:=decide (d6 < 5)
  have hu:dNe (kd ks) (kd qs)=some u:=qn6 q F d6
  have hv:dNe (kd qs) (kd ks)=some u:=qni q F d6
  have eq:u=false→qs=ks:=fun h=>by
   show (otL at0 d6).map (kd1 q)=_
   rw [qlo at0 d6 (by have:=of_decide_eq_false h; omega)]
  let r (x2 x3 x4 x5 x6 x7 x8 x9 x10 x11 x12 x13 x14:Option D):Ev:=rho82 (some NS) (some (.int (k:Nat))) x2 x3 x4 x5 x6 x7 x8 x9 x10 x11 x12 x13 x14
  let C:Option D:=some (.int c)
  let P:Option D:=some (tx pln)
  let A:Option D:=some (.int (at0:Nat))
  have ixd:∀ {j:Nat} {d:Nat} {x4 x5 x6 x7 x8 x9 x10 x11 x12 x13 x14},ds[j]? = some ((d:Nat):Int)→eOp dIx (eVar 3) (eC (.int (j:Nat))) (r C (some DS) x4 x5 x6 x7 x8 x9 x10 x11 x12 x13 x14) [] = .ok (.int (d:Nat)) []:=fun h=>z_op (x:=DS) (qal rfl) z_c (qhW h)
  have s2:sSet 2 (eCall false 2 zaq (lCons (eVar 0) (lCons (eVar 1) lNil))) (r none none none none none none none none none none none none none) [] = .nx (r C none none none none none none none none none none none none) []:=qaN (qbu (qaf (qal rfl) (qaf (qal rfl) qao)) rfl (kc [])) rfl
  have s3:sSet 3 (eCall false 2 zas (lCons (eVar 2) (lCons (eLst false (lCons (eC (.int 12)) (lCons (eC (.int 13)) (lCons (eC (.int 13)) (lCons (eC (.int 12)) (lCons (eC (.int 13)) (lCons (eC (.int 13)) (lCons (eC (.int 12)) (lCons (eOp dPow (eC (.int 26)) (eC (.int 3))) (lCons (eC (.int 80)) lNil)))))))))) lNil))) (r C none none none none none none none none none none none none) [] = .nx (r C (some DS) none none none none none none none none none none none) []:=
   qaN (qbu (qaf (qal rfl) (qaf (qaV (qaf z_c (qaf z_c (qaf z_c (qaf z_c (qaf z_c (qaf z_c (qaf z_c (qaf (z_op z_c z_c rfl) (qaf z_c qao))))))))) (show 9≤16777216 by decide)) qao)) rfl (dr [])) rfl
  have s4:sSet 4 (eCall false 2 zaz (lCons (eOp dIx (eVar 3) (eC (.int 7))) (lCons (eC (.int 3)) lNil))) (r C (some DS) none none none none none none none none none none none) [] = .nx (r C (some DS) (some NM) none none none none none none none none none none) []:=qaN (qbu (qaf (ixd (j:=7) rfl) (qaf z_c qao)) rfl (qlm q)) rfl
  have s5:sSet 5 (eCall false 0 zaC lNil) (r C (some DS) (some NM) none none none none none none none none none none) [] = .nx (r C (some DS) (some NM) P none none none none none none none none none) []:=qaN (qbu qao rfl qll) rfl
  have s6:sSet 6 (eOp dIx (eVar 3) (eC (.int 8))) (r C (some DS) (some NM) P none none none none none none none none none) [] = .nx (r C (some DS) (some NM) P A none none none none none none none none) []:=qaN (ixd (j:=8) rfl) rfl
  have nmx:∀ {j:Nat} {y:D} {x7 x8 x9 x10 x11 x12 x13 x14},([tx (nmOf q 0),tx (nmOf q 1),tx (nmOf q 2)]:List D)[j]? = some y→eOp dIx (eVar 4) (eC (.int (j:Nat))) (r C (some DS) (some NM) P A x7 x8 x9 x10 x11 x12 x13 x14) [] = .ok y []:=fun h=>z_op (x:=NM) (qal rfl) z_c (by show dIx (.lst _) (.int _)=_; rw [qeS]; exact h)
  have pls:∀ {j:Nat} {x7 x8 x9 x10 x11 x12 x13 x14},eOp dAdd (eVar 6) (eC (.int (j:Nat))) (r C (some DS) (some NM) P A x7 x8 x9 x10 x11 x12 x13 x14) [] = .ok (.int ((at0+j:Nat):Int)) []:=fun {j}=>z_op (x:=.int (at0:Nat)) (y:=.int (j:Nat)) (qal rfl) z_c rfl
  have cu0:∀ {j:Nat} {x7 x8 x9 x10 x11 x12 x13 x14},eCut (eVar 5) (oSome (eVar 6)) (oSome (eOp dAdd (eVar 6) (eC (.int (j:Nat))))) (r C (some DS) (some NM) P A x7 x8 x9 x10 x11 x12 x13 x14) [] = .ok (tx (sl82 at0 (at0+j))) []:=fun {j}=>qe4 (qal rfl) (qbG (qal rfl)) (qbG pls) (qnk at0 (at0+j))
  have cu3:∀ {i j:Nat} {x7 x8 x9 x10 x11 x12 x13 x14},eCut (eVar 5) (oSome (eOp dAdd (eVar 6) (eC (.int (i:Nat))))) (oSome (eOp dAdd (eVar 6) (eC (.int (j:Nat))))) (r C (some DS) (some NM) P A x7 x8 x9 x10 x11 x12 x13 x14) [] = .ok (tx (sl82 (at0+i) (at0+j))) []:=fun {i j}=>qe4 (qal rfl) (qbG pls) (qbG pls) (qnk (at0+i) (at0+j))
  have one:(1:Nat)≤16777216:=by decide
  have two:(2:Nat)≤16777216:=by decide
  have s7:sSet 7 (eLst false (lCons (eTup (lCons (eOp dIx (eVar 4) (eC (.int 0))) (lCons (eCut (eVar 5) (oSome (eVar 6)) (oSome (eOp dAdd (eVar 6) (eC (.int 2))))) lNil))) (lCons (eTup (lCons (eOp dIx (eVar 4) (eC (.int 1))) (lCons (eCut (eVar 5) (oSome (eOp dAdd (eVar 6) (eC (.int 3)))) (oSome (eOp dAdd (eVar 6) (eC (.int 5))))) lNil))) lNil))) (r C (some DS) (some NM) P A none none none none none none none none) [] = .nx (r C (some DS) (some NM) P A (some (kd ks)) none none none none none none none) []:=
   qaN (qaV (qaf (qcw (qaf (nmx (j:=0) rfl) (qaf (cu0 (j:=2)) qao)) two) (qaf (qcw (qaf (nmx (j:=1) rfl) (qaf (cu3 (i:=3) (j:=5)) qao)) two) qao)) two) rfl
  let T3:List D:=[kd ((otL at0 0).map (kd1 q)),kd ((otL at0 1).map (kd1 q)),kd ((otL at0 2).map (kd1 q))]
  have k7:∀ {x8 x9 x10 x11 x12 x13 x14},eVar 7 (r C (some DS) (some NM) P A (some (kd ks)) x8 x9 x10 x11 x12 x13 x14) [] = .ok (kd ks) []:=qal rfl
  have k01:dCut none (some 1) (kd ks)=some (.lst [kdD (kd1 q (0,sl82 at0 (at0+2)))]):=rfl
  have s8:sSet 8 (eLst false (lCons (eUn dRev (eVar 7)) (lCons (eLst false (lCons (eTup (lCons (eOp dIx (eVar 4) (eC (.int 2))) (lCons (eOp dIx (eOp dIx (eVar 7) (eC (.int 0))) (eC (.int 1))) lNil))) (lCons (eOp dIx (eVar 7) (eC (.int 1))) lNil))) (lCons (eOp dAdd (eCut (eVar 7) oNo (oSome (eC (.int 1)))) (eLst false (lCons (eTup (lCons (eOp dIx (eVar 4) (eC (.int 1))) (lCons (eCut (eVar 5) (oSome (eOp dAdd (eVar 6) (eC (.int 3)))) (oSome (eOp dAdd (eVar 6) (eC (.int 6))))) lNil))) lNil))) lNil)))) (r C (some DS) (some NM) P A (some (kd ks)) none none none none none none none) [] = .nx (r C (some DS) (some NM) P A (some (kd ks)) (some (.lst T3)) none none none none none none) []:=
   qaN (qaV (xs:=T3) (qaf (z_un (x:=kd ks) k7 rfl) (qaf (qaV (qaf (qcw (qaf (nmx (j:=2) rfl) (qaf (z_op (x:=kdD (kd1 q (0,sl82 at0 (at0+2)))) (y:=.int 1) (z_op (x:=kd ks) (y:=.int 0) k7 z_c rfl) z_c rfl) qao)) two) (qaf (z_op (x:=kd ks) (y:=.int 1) k7 z_c rfl) qao)) two) (qaf (z_op (x:=.lst [kdD (kd1 q (0,sl82 at0 (at0+2)))]) (y:=.lst [kdD (kd1 q (1,sl82 (at0+3) (at0+6)))]) (qe4 k7 z_no (qbG z_c) k01) (qaV (qaf (qcw (qaf (nmx (j:=1) rfl) (qaf (cu3 (i:=3) (j:=6)) qao)) two) qao) one) rfl) qao))) (show 3≤16777216 by decide)) rfl
  have sgx:dIx (tx pln) (.int ((at0+8:Nat):Int))=some (tx [pg82 (at0+8)]):=by
   show (if (PySem.Str.mk pln.toArray).length≤16777216 then ((dIxN pln.toArray.toList.length ((at0+8:Nat):Int)).bind fun j=>pln.toArray.toList[j]?).map (fun c=>D.str ⟨#[c]⟩) else none)=_
   rw [if_pos (by decide +kernel)]
   have lp:pln.toArray.toList.length=94:=by decide +kernel
   unfold dIxN
   rw [lp,if_pos (by omega),if_pos (by omega)]
   show ((pln.toArray.toList[((at0+8:Nat):Int).toNat]?).map fun c=>D.str ⟨#[c]⟩)=_
   rw [wbe,show pln.toArray.toList=pln from rfl,F.ix]
   rfl
  have s8b:sSet 8 (eOp dIx (eOp dAdd (eOp dAdd (eVar 8) (eLst false (lCons (eCut (eVar 7) oNo (oSome (eC (.int 1)))) (lCons (eOp dAdd (eVar 7) (eLst false (lCons (eTup (lCons (eOp dIx (eVar 4) (eC (.int 2))) (lCons (eOp dIx (eVar 5) (eOp dAdd (eVar 6) (eC (.int 8)))) lNil))) lNil))) lNil)))) (eOp dMul (eLst false (lCons (eFunL false dList (lCons (eVar 7) lNil)) lNil)) (eC (.int 7)))) (eOp dIx (eVar 3) (eC (.int 6)))) (r C (some DS) (some NM) P A (some (kd ks)) (some (.lst T3)) none none none none none none) [] = .nx (r C (some DS) (some NM) P A (some (kd ks)) (some (kd qs)) none none none none none none) []:=by
   have t4:eLst false (lCons (eCut (eVar 7) oNo (oSome (eC (.int 1)))) (lCons (eOp dAdd (eVar 7) (eLst false (lCons (eTup (lCons (eOp dIx (eVar 4) (eC (.int 2))) (lCons (eOp dIx (eVar 5) (eOp dAdd (eVar 6) (eC (.int 8)))) lNil))) lNil))) lNil)) (r C (some DS) (some NM) P A (some (kd ks)) (some (.lst T3)) none none none none none none) [] = .ok (.lst [kd ((otL at0 3).map (kd1 q)),kd ((otL at0 4).map (kd1 q))]) []:=
    qaV (qaf (qe4 k7 z_no (qbG z_c) k01) (qaf (z_op (x:=kd ks) (y:=.lst [kdD (kd1 q (2,[pg82 (at0+8)]))]) k7 (qaV (qaf (qcw (qaf (nmx (j:=2) rfl) (qaf (z_op (x:=tx pln) (y:=.int ((at0+8:Nat):Int)) (qal rfl) (pls (j:=8)) sgx) qao)) two) qao) one) rfl) qao)) two
   have t7:eOp dMul (eLst false (lCons (eFunL false dList (lCons (eVar 7) lNil)) lNil)) (eC (.int 7)) (r C (some DS) (some NM) P A (some (kd ks)) (some (.lst T3)) none none none none none none) [] = .ok (.lst [kd ks,kd ks,kd ks,kd ks,kd ks,kd ks,kd ks]) []:=z_op (x:=.lst [kd ks]) (y:=.int 7) (qaV (qaf (qd0 (qaf k7 qao) rfl) qao) one) z_c (qnl _)
   exact qaN (z_op (x:=.lst (T3++[kd ((otL at0 3).map (kd1 q)),kd ((otL at0 4).map (kd1 q))]++[kd ks,kd ks,kd ks,kd ks,kd ks,kd ks,kd ks])) (y:=.int (d6:Nat)) (z_op (x:=.lst (T3++[kd ((otL at0 3).map (kd1 q)),kd ((otL at0 4).map (kd1 q))])) (y:=.lst [kd ks,kd ks,kd ks,kd ks,kd ks,kd ks,kd ks]) (z_op (x:=.lst T3) (y:=.lst [kd ((otL at0 3).map (kd1 q)),kd ((otL at0 4).map (kd1 q))]) (qal rfl) t4 rfl) t7 rfl) (ixd (j:=6) rfl) (qoa q at0 d6 (by omega))) rfl
  let R1:D:=.lst (r1.map rlD)
  let R2:D:=.lst (r2.map rlD)
  have s9:sSet 9 (eCall false 2 zag (lCons (eCut (eVar 3) oNo (oSome (eC (.int 3)))) (lCons (eOp dIx (eVar 4) (eC (.int 0))) lNil))) (r C (some DS) (some NM) P A (some (kd ks)) (some (kd qs)) none none none none none none) [] = .nx (r C (some DS) (some NM) P A (some (kd ks)) (some (kd qs)) (some R1) none none none none none) []:=
   qaN (qbu (qaf (qe4 (x:=DS) (qal rfl) z_no (qbG z_c) (show dCut none (some 3) DS=some (.lst [.int (d0:Nat),.int (d1:Nat),.int (d2:Nat)]) from rfl)) (qaf (nmx (j:=0) rfl) qao)) rfl (qjJ (nmOf q 0) (many:=d0) (l:=d1) (r:=d2) (by omega) (by omega) (by omega))) rfl
  obtain ⟨hs,hh⟩:=qln q at0 d6
  have s10:sSet 10 (eCall false 2 zag (lCons (eCut (eVar 3) (oSome (eC (.int 3))) (oSome (eC (.int 6)))) (lCons (eOp dIx (eOp dIx (eVar 8) (eC (.int 0))) (eC (.int 0))) lNil))) (r C (some DS) (some NM) P A (some (kd ks)) (some (kd qs)) (some R1) none none none none none) [] = .nx (r C (some DS) (some NM) P A (some (kd ks)) (some (kd qs)) (some R1) (some R2) none none none none) []:=
   qaN (qbu (qaf (qe4 (x:=DS) (qal rfl) (qbG z_c) (qbG z_c) (show dCut (some 3) (some 6) DS=some (.lst [.int (d3:Nat),.int (d4:Nat),.int (d5:Nat)]) from rfl)) (qaf (z_op (x:=.tup [tx (nmOf q (fnm d6)),tx hs]) (y:=.int 0) (z_op (x:=kd qs) (y:=.int 0) (qal rfl) z_c hh) z_c rfl) qao)) rfl (qjJ (nmOf q (fnm d6)) (many:=d3) (l:=d4) (r:=d5) (by omega) (by omega) (by omega))) rfl
  have ltl:∀ L:Kd,dList [kd L]=some (L.map kdD):=fun _=>rfl
  have s11:sSet 11 (eNew "Book" 3 zaa (lCons (eFunL false dList (lCons (eVar 7) lNil)) (lCons (eVar 9) lNil))) (r C (some DS) (some NM) P A (some (kd ks)) (some (kd qs)) (some R1) (some R2) none none none none) [] = .nx (r C (some DS) (some NM) P A (some (kd ks)) (some (kd qs)) (some R1) (some R2) (some (bk82 ks r1)) none none none) []:=
   qaN (qfg K g1 l1 ⟨by rw [show uB r1=(d1:Nat) from u1.1]; omega,by rw [show uA r1=(d2:Nat) from u1.2]; omega⟩ n1 (qaf (qd0 (qaf k7 qao) (ltl ks)) (qaf (qal rfl) qao))) rfl
  have s12:sSet 12 (eNew "Book" 3 zaa (lCons (eFunL false dList (lCons (eVar 8) lNil)) (lCons (eVar 10) lNil))) (r C (some DS) (some NM) P A (some (kd ks)) (some (kd qs)) (some R1) (some R2) (some (bk82 ks r1)) none none none) [] = .nx (r C (some DS) (some NM) P A (some (kd ks)) (some (kd qs)) (some R1) (some R2) (some (bk82 ks r1)) (some (bk82 qs r2)) none none) []:=
   qaN (qfg Q g2 l2 ⟨by rw [show uB r2=(d4:Nat) from u2.1]; omega,by rw [show uA r2=(d5:Nat) from u2.2]; omega⟩ n2 (qaf (qd0 (qaf (qal rfl) qao) (ltl qs)) (qaf (qal rfl) qao))) rfl
  let E (x13 x14:Option D):Ev:=r C (some DS) (some NM) P A (some (kd ks)) (some (kd qs)) (some R1) (some R2) (some (bk82 ks r1)) (some (bk82 qs r2)) x13 x14
  let AN:D:=ansD u (fitB r1 r2)
  have s13:sSet 13 (eCall false 5 zar (lCons (eVar 7) (lCons (eVar 8) (lCons (eVar 9) (lCons (eVar 10) (lCons (eVar 3) lNil)))))) (E none none) [] = .nx (E (some AN) none) []:=
   qaN (qbu (qaf k7 (qaf (qal rfl) (qaf (qal rfl) (qaf (qal rfl) (qaf (qal rfl) qao))))) rfl (qnj (A:=kd ks) (B:=kd qs) (ds:=ds) (qaw ks) (qaw qs) n1 n2 (fun m=>hu) rfl rfl rfl rfl ub ua)) rfl
  have nds:noLocs [bk82 ks r1,bk82 qs r2]=true:=by
   show (noLoc (bk82 ks r1) && (noLoc (bk82 qs r2) && true))=true
   rw [qcj n1,qcj n2]; rfl
  have g12:u=false→∀ x∈r1++r2,GoodR (nmsOf ks) x:=fun h x hx=>by
   rcases wau.mp hx with hx | hx
   ·exact g1 x hx
   ·exact eq h ▸ g2 x hx
  have g21:u=false→∀ x∈r2++r1,GoodR (nmsOf qs) x:=fun h x hx=>by
   rcases wau.mp hx with hx | hx
   ·exact g2 x hx
   ·have:=g1 x hx
    rw [← eq h] at this
    exact this
  have va:view [] AN=AN:=qi7 u (fitB r1 r2)
  have lp:sFor (iRange (eC (.int 2))) (gName 14) zdL (E (some AN) none) [] = .nx (E (some AN) none) []:=by
   refine qfN (zcR (n:=2) z_c (by decide)) (qeB (fun i:Nat=>D.int (i:Nat)) (List.range 2) fun i _=>⟨E (some AN) (some (.int (i:Nat))),qhj rfl,?_⟩)
   unfold zdL
   have a1:eMkL zae [11,12] zd0 (E (some AN) (some (.int (i:Nat)))) [] = .ok AN []:=qnh K n1 n2 l1 l2 hu eq g12 (cs:=[11,12]) (i:=0) (j:=1) (ds:=[bk82 ks r1,bk82 qs r2]) rfl nds rfl rfl
   have a2:eMkL zae [11,12] zdT (E (some AN) (some (.int (i:Nat)))) [] = .ok AN []:=by
    have:=qnh (m:=[]) (ρ:=E (some AN) (some (.int (i:Nat)))) Q n2 n1 l2 l1 hv (fun h=>(eq h).symm) g21 (cs:=[11,12]) (i:=1) (j:=0) (ds:=[bk82 ks r1,bk82 qs r2]) rfl nds rfl rfl
    rw [qi5 r1 r2] at this
    exact this
   exact z_sw (ρ1:=E (some AN) (some (.int (i:Nat)))) (qar (qcb (k:=false) (qaX (x:=AN) (y:=AN) a1 (qal rfl) (by rw [va]; exact qjN u (fitB r1 r2))) (by rw [if_neg wak]; exact qbH)) (qcb (k:=false) (qaX (x:=AN) (y:=AN) a2 (qal rfl) (by rw [va]; exact qjN u (fitB r1 r2))) (by rw [if_neg wak]; exact qbH))) rfl
  have s15:sIf (tAnd (tCmp dEq (eVar 13) (eC (.str "told"))) (tCmp dNe (eMethC false "Book" "rules" 1 zac (eCall false 2 zbZ (lCons (eVar 11) (lCons (eVar 12) lNil))) lNil) (eOp dAdd (eVar 9) (eVar 10)))) (sRet (eC (.bl false))) sNext (E (some AN) none) [] = .nx (E (some AN) none) []:=by
   refine qcb (k:=false) (ql1 (k:=!u && fitB r1 r2) (qaX (x:=AN) (y:=.str "told") (qal rfl) z_c (by rw [va]; exact qi6 _ _)) ?_) (by rw [if_neg wak]; exact qbH)
   cases hu2:u with
   | true=>rfl
   | false=>
    cases hf:fitB r1 r2 with
    | false=>rfl
    | true=>
     show tCmp dNe _ _ _ _=_
     have e:=eq hu2
     have hfit:=of_decide_eq_true hf
     have ov:eCall false 2 zbZ (lCons (eVar 11) (lCons (eVar 12) lNil)) (E (some AN) none) [] = .ok (bk82 ks (r1++r2)) []:=qbu (ds:=[bk82 ks r1,bk82 qs r2]) (qaf (qal rfl) (qaf (qal rfl) qao)) rfl (qaY nds ⟨[],by rw [e]; exact qnf K (g12 hu2) n1 n2 l1 l2 hfit⟩ (qcj (qbD n1 n2)))
     have rl:eMethC false "Book" "rules" 1 zac (eCall false 2 zbZ (lCons (eVar 11) (lCons (eVar 12) lNil))) lNil (E (some AN) none) [] = .ok (.lst ((r1++r2).map rlD)) []:=qn7 (qbD n1 n2) ov
     have ad:dAdd R1 R2=some (.lst ((r1++r2).map rlD)):=by
      rw [waP]
      show (if (r1.map rlD).length+(r2.map rlD).length≤16777216 then _ else none)=_
      rw [if_pos (by rw [waa,waa]; omega)]
     exact qaX (x:=.lst ((r1++r2).map rlD)) (y:=.lst ((r1++r2).map rlD)) rl (z_op (x:=R1) (y:=R2) (qal rfl) (qal rfl) ad) (qaS (qdj K (g12 hu2)))
  have s16:sIf (tOr (tCmp dNe (eMethC false "Book" "rules" 1 zac (eVar 11) lNil) (eVar 9)) (tOr (tCmp dNe (eMethC false "Book" "rules" 1 zac (eVar 12) lNil) (eVar 10)) (tCmp dNe (eMethC false "Book" "kinds" 1 zai (eVar 12) lNil) (eVar 8)))) (sRet (eC (.bl false))) sNext (E (some AN) none) [] = .nx (E (some AN) none) []:=
   qcb (k:=false) (qiM (k:=false) (q:=false) (qaX (x:=R1) (y:=R1) (qf3 n1 rfl) (qal rfl) (qaS (qdj K g1))) (qiM (k:=false) (q:=false) (qaX (x:=R2) (y:=R2) (qf3 n2 rfl) (qal rfl) (qaS (qdj Q g2))) (qaX (x:=kd qs) (y:=kd qs) (qdE n2 rfl) (qal rfl) (qaS (qax qs))))) (by rw [if_neg wak]; exact qbH)
  unfold zdx
  exact z_sw (ρ1:=E (some AN) none) (qar s2 (qar s3 (qar s4 (qar s5 (qar s6 (qar s7 (qar s8 (qar s8b (qar s9 (qar s10 (qar s11 (qar s12 (qar s13 (qar lp (qar s15 s16))))))))))))))) rfl
theorem qi8 (ns:List Int) (h:ns.length≤63):∃ m',zeb [.lst (ns.map D.int)] [] = .ok (.bl true) m':=by
 let r:Ev:=rho82 (some (.lst (ns.map D.int))) none none none none none none none none none none none none none none
 obtain ⟨N,hN,e⟩:∃ N:Nat,N≤12∧eFun dMax (lCons (eC (.int 1)) (lCons (eFun dMin (lCons (eFun dLen (lCons (eVar 0) lNil)) (lCons (eC (.int 12)) lNil))) lNil)) r [] = .ok (.int (N:Nat)) []:=by
  have e1:eFun dMin (lCons (eFun dLen (lCons (eVar 0) lNil)) (lCons (eC (.int 12)) lNil)) r [] = .ok (.int (min ns.length 12:Nat)) []:=qe3 (xs:=[.int (ns.length:Nat),.int 12]) (qaf (qe3 (qaf (qal rfl) qao) (qfO D.int ns)) (qaf z_c qao)) (by
   show some (D.int (if (12:Int) < ((ns.length:Nat):Int) then 12 else ((ns.length:Nat):Int)))=_
   split <;> congr 2 <;> omega)
  refine ⟨max 1 (min ns.length 12),by omega,qe3 (xs:=[.int 1,.int (min ns.length 12:Nat)]) (qaf z_c (qaf e1 qao)) ?_⟩
  show some (D.int (if ((min ns.length 12:Nat):Int) > 1 then ((min ns.length 12:Nat):Int) else 1))=_
  split <;> congr 2 <;> omega
 have lp:sFor (iRange (eFun dMax (lCons (eC (.int 1)) (lCons (eFun dMin (lCons (eFun dLen (lCons (eVar 0) lNil)) (lCons (eC (.int 12)) lNil))) lNil)))) (gName 1) zdx r [] = .nx r []:=
  qfN (zcR (n:=N) e (by omega)) (by
   rw [qkS]
   exact qeB (fun i:Nat=>D.int (i:Nat)) (List.range N) fun i _=>⟨_,qhj rfl,qnm ns i⟩)
 refine ⟨[],?_⟩
 unfold zeb zdU
 exact qd1 rfl (qar lp (qd2 z_c))
end TT

set_option maxHeartbeats 2000000
namespace TT
open PySem PySem.Spec PyProof.Rows L2
def top (i:Nat):Stmt:=PySem.Challenge.pw_cutreach_k82_books_not_over.main.body.getD i (.Pass ⟨0,0,0,0⟩)
local macro_rules | `(tactic| subst_eqs) => `(tactic| exact ⟨rfl, rfl, rfl, by decide +kernel, rfl, by decide +kernel, by decide +kernel⟩)
abbrev DVs [TabI] (P:Program) (w:World) (K:PySem.W.Frag) (mg:Str→Option Value) (base:Heap) (N:List Str) (x:Str) (st:Stmt) (b:S) (k:Nat) (a:Addr):Prop:=∀ (c:Ct) (xo:c.xo=none) (cdv:Value) (A:Around) (outer:List Env) (s:Shared) (H:Hp) (E:XK) (F:Fit (cxOf (L2.CX P w) P w K mg base N x (defScope st) a cdv A outer s H E) c k),PSs (cxOf (L2.CX P w) P w K mg base N x (defScope st) a cdv A outer s H E) (defBody st) (rS c b)
structure Facts (K:PySem.W.Frag) (mg:Str→Option Value):Prop where
 b_ValueError:mg "ValueError" = none
 b_all:mg "all" = none
 b_bool:mg "bool" = none
 b_int:mg "int" = none
 b_isinstance:mg "isinstance" = none
 b_len:mg "len" = none
 b_list:mg "list" = none
 b_max:mg "max" = none
 b_min:mg "min" = none
 b_range:mg "range" = none
 b_set:mg "set" = none
 b_sorted:mg "sorted" = none
 b_str:mg "str" = none
 b_sum:mg "sum" = none
 b_tuple:mg "tuple" = none
 c_CUT:∃ t,mg "CUT" = some (.str "cut" t)
 c_KEEP:∃ t,mg "KEEP" = some (.str "keep" t)
 c_LETTERS:∃ t,mg "LETTERS" = some (.str "abcdefghijklmnopqrstuvwxyz" t)
 c_MOST_KINDS:∃ t,mg "MOST_KINDS" = some (.int 6 t)
 c_MOST_PARTS:∃ t,mg "MOST_PARTS" = some (.int 5 t)
 c_MOST_ROW:∃ t,mg "MOST_ROW" = some (.int 3 t)
 c_MOST_RULES:∃ t,mg "MOST_RULES" = some (.int 12 t)
 c_MOST_SIGNS:∃ t,mg "MOST_SIGNS" = some (.int 60 t)
 c_MOST_TURNS:∃ t,mg "MOST_TURNS" = some (.int 6 t)
 c_MOST_UNITS:∃ t,mg "MOST_UNITS" = some (.int 12 t)
 c_REST:∃ t,mg "REST" = some (.str "rest" t)
 c_SIGNS:∃ t,mg "SIGNS" = some (.str " !\"#$&'()*+,-./0123456789:;<=>?@ABCDEFGHIJKLMNOPQRSTUVWXYZ[\\]^_`abcdefghijklmnopqrstuvwxyz{|}~" t)
 fl_Book_own_kinds:FldOk K mg "Book" "own_kinds"
 fl_Book_own_rules:FldOk K mg "Book" "own_rules"
 x_NoKinds:∃ C,XC K mg "NoKinds" C
 x_NoBook:∃ C,XC K mg "NoBook" C
 x_Unlike:∃ C,XC K mg "Unlike" C
 h_CutError:∃ C,mg "CutError" = some (.ref C)
 h_NoRule:∃ C,mg "NoRule" = some (.ref C)
 h_TooMany:∃ C,mg "TooMany" = some (.ref C)
 h_Unlike:∃ C,mg "Unlike" = some (.ref C)
 h_NoBook:∃ C,mg "NoBook" = some (.ref C)
 h_NoKinds:∃ C,mg "NoKinds" = some (.ref C)
 xt:XTok K mg xtab_k82
section
variable [TabI] {P:Program} {w:World} {K:PySem.W.Frag} {mg:Str→Option Value} {base:Heap}
abbrev zb5:Stmt:=top 14
theorem qfh (Y:Facts K mg) {a:Addr}:DVQ P w K mg base ["thing"] 1 "is_whole" zb5 zc1 0 a:=⟨by subst_eqs,rfl,fun _ xo _ _ _ _ _ _ F=>
 (qag (qah (qgt (qav F Y.b_isinstance (qaa (qab 0) (qaa (qaJ rfl Y.b_int (by decide +kernel)) qac))) (qfm (qlu (qav F Y.b_isinstance (qaa (qab 0) (qaa (qaJ rfl Y.b_bool (by decide +kernel)) qac))))))))⟩
abbrev zcw:Stmt:=top 15
theorem qgq (Y:Facts K mg) {a:Addr}:DVQ P w K mg base ["thing"] 1 "is_text" zcw zdk 0 a:=⟨by subst_eqs,rfl,fun _ xo _ _ _ _ _ _ F=>
 (qag (qah (qav F Y.b_isinstance (qaa (qab 0) (qaa (qaJ rfl Y.b_str (by decide +kernel)) qac)))))⟩
abbrev zaU:Stmt:=top 16
theorem qdk (Y:Facts K mg) (zci:Callee P w K mg base 1 "is_text" 1 zaG) {a:Addr}:DVQ P w K mg base ["thing","sign"] 1 "is_kind_name" zaU zbW 1 a:=⟨by subst_eqs,rfl,fun _ xo _ _ _ _ _ _ F=>
 (qad (qaE (PW.pt (qaU (qaz (qaD F.z (xe_c F xo zci (qaa (qab 0) qac)))) (qaU (qaz (qdI op_le op_le qcm qcm qae (qaG F Y.b_len (qaa (qab 0) qac)) qae)) (qaP (qlM F (qab 0) (qaQ (qaa (qb7 (by decide +kernel) rfl Y.c_REST) (qaa (qaF) qac))))))))
 (qag (qah qa8))
 qak)
 (qag (qah (qc1 F Y.b_all (qaa (qev F (qba F (qab 0)) [("sign",1)]
  (fun F=>(qan F.nd rfl (.inl rfl)))
  (fun F=>qbp)
  (fun F=>(qlL F (qab 1) (qb7 (by decide +kernel) rfl Y.c_LETTERS)))) qac)))))⟩
abbrev zbL:Stmt:=top 17
theorem qeD (Y:Facts K mg) (zci:Callee P w K mg base 1 "is_text" 1 zaG) {a:Addr}:DVQ P w K mg base ["thing","sign"] 1 "are_signs" zbL zcX 1 a:=⟨by subst_eqs,rfl,fun _ xo _ _ _ _ _ _ F=>
 (qad (qaE (PW.pt (qaU (qaz (qaD F.z (xe_c F xo zci (qaa (qab 0) qac)))) (qaP (qkh F (qab 0) (qaF)))))
 (qag (qah qa8))
 qak)
 (qad (qaE (qaz (qaD F.z (qc1 F Y.b_all (qaa (qev F (qba F (qab 0)) [("sign",1)]
  (fun F=>(qan F.nd rfl (.inl rfl)))
  (fun F=>qbp)
  (fun F=>(qlL F (qab 1) (qb7 (by decide +kernel) rfl Y.c_SIGNS)))) qac))))
 (qag (qah qa8))
 qak)
 (qag (qah (qlJ F (qab 0) (qim F (qaF) (qaa (qgc F Y.b_sorted Y.b_set (qab 0)) qac)))))))⟩
abbrev zaJ:Stmt:=top 18
theorem qcx (Y:Facts K mg) (zdQ:Callee P w K mg base 2 "are_signs" 1 zbf) (zdv:Callee P w K mg base 2 "is_kind_name" 1 zaH) {a:Addr}:DVQ P w K mg base ["kinds","names","signs","thing"] 1 "look_at_kinds" zaJ zbN 2 a:=⟨by subst_eqs,rfl,fun _ xo _ _ _ _ _ _ F=>
 (qad (qaE (PW.pt (qaU (qaz (qaD F.z (qav F Y.b_isinstance (qaa (qab 0) (qaa (qaJ rfl Y.b_list (by decide +kernel)) qac))))) (qaP (qdL (qaG F Y.b_len (qaa (qab 0) qac)) (qbo rfl Y.c_MOST_KINDS)))))
 (qag (qa6 F Y.x_NoKinds.choose_spec rfl))
 qak)
 (qad (xs_s F.nd (qaC qac))
 (qad (xs_s F.nd (qaF))
 (qad (qdr 1 (qbn F (qba F (qab 0)) (qan F.nd rfl (.inl rfl))
 (qa7 [3] (qad (qaE (PW.pt (qaU (qaz (qaD F.z (qav F Y.b_isinstance (qaa (qab 3) (qaa (qaJ rfl Y.b_tuple (by decide +kernel)) qac))))) (qaP (qbV F (qaG F Y.b_len (qaa (qab 3) qac)) qae))))
 (qag (qa6 F Y.x_NoKinds.choose_spec rfl))
 qak)
 (qad (qaE (PW.pt (qaU (qaz (qaD F.z (xe_c F xo zdv (qaa (qap F (qab 3) qae) qac)))) (qaU (qlM F (qap F (qab 3) qae) (qab 1)) (qaP (qaz (qaD F.z (xe_c F xo zdQ (qaa (qap F (qab 3) qae) qac))))))))
 (qag (qa6 F Y.x_NoKinds.choose_spec rfl))
 qak)
 (qad (qbg (qa1 F.z (qab 1) (qap F (qab 3) qae)))
 (qag (xs_s F.nd (qat F.z (qab 2) (qap F (qab 3) qae))))))))))
 (qag (qaE (PW.pt (qaU (qbV F (qg7 F Y.b_len Y.b_set (qab 2)) (qaG F Y.b_len (qaa (qab 2) qac))) (qaP (qdL (qaG F Y.b_len (qaa (qab 2) qac)) (qbo rfl Y.c_MOST_SIGNS)))))
 (qag (qa6 F Y.x_NoKinds.choose_spec rfl))
 qak))))))⟩
abbrev zb4:Stmt:=top 19
theorem qfi (Y:Facts K mg) {a:Addr}:DVQ P w K mg base ["kinds","name","signs"] 1 "names_of" zb4 zda 0 a:=⟨by subst_eqs,rfl,fun _ xo _ _ _ _ _ _ F=>
 (qag (qah (qat F.z (qev F (qba F (qab 0)) [("name",1),("signs",2)]
  (fun F=>(qgv F.K F.calm (qa5 (qan F.nd rfl (.inl rfl)) (qa5 (qan F.nd rfl (.inl rfl)) qeH))))
  (fun F=>qbp)
  (fun F=>(qab 1))) (qaC (qaa (qb7 (by decide +kernel) rfl Y.c_REST) qac)))))⟩
abbrev zbQ:Stmt:=top 24
theorem qeE (Y:Facts K mg) {a:Addr}:DVQ P w K mg base ["names","thing","places","name","k"] 2 "is_choice" zbQ zcW 0 a:=⟨by subst_eqs,rfl,fun _ xo _ _ _ _ _ _ F=>
 (qad (qaE (PW.pt (qaU (qaz (qaD F.z (qav F Y.b_isinstance (qaa (qab 1) (qaa (qaJ rfl Y.b_tuple (by decide +kernel)) qac))))) (qaP (qkh F (qaG F Y.b_len (qaa (qab 1) qac)) qae))))
 (qag (qah qa8))
 qak)
 (qad (xs_r F.nd (qaC qac))
 (qad (qdr 2 (qbn F (qba F (qab 1)) (qan F.nd rfl (.inl rfl))
 (qa7 [3] (qad (qaE (PW.pt (qaU (qaz (qaD F.z (qav F Y.b_isinstance (qaa (qab 3) (qaa (qaJ rfl Y.b_str (by decide +kernel)) qac))))) (qaP (qfp F (qab 3) (qab 0)))))
 (qag (qah qa8))
 qak)
 (qag (qbg (qa1 F.z (qab 2) (qeg F (qab 0) (qaa (qab 3) qac)))))))))
 (qag (qah (qc1 F Y.b_all (qaa (qev F (qbz F rfl Y.b_range (qjk (qaG F Y.b_len (qaa (qab 2) qac)) qae)) [("k",4)]
  (fun F=>(qan F.nd rfl (.inl rfl)))
  (fun F=>qbp)
  (fun F=>(qnD (qap F (qab 2) (qab 4)) (qap F (qab 2) (qat F.z (qab 4) qae))))) qac)))))))⟩
abbrev zbR:Stmt:=top 25
theorem qeF (Y:Facts K mg) (zdw:Callee P w K mg base 1 "is_whole" 1 zaY) {a:Addr}:DVQ P w K mg base ["least","most"] 2 "are_turns" zbR zcU 1 a:=⟨by subst_eqs,rfl,fun _ xo _ _ _ _ _ _ F=>
 (qad (qaE (PW.pt (qaU (qaz (qaD F.z (xe_c F xo zdw (qaa (qab 0) qac)))) (qaP (qaz (qdI op_le op_le qcm qcm qae (qab 0) (qbo rfl Y.c_MOST_TURNS))))))
 (qag (qah qa8))
 qak)
 (qag (qah (qnw (qnG (qab 1) qfk) (qfm (qgt (xe_c F xo zdw (qaa (qab 1) qac)) (qfm (qig op_le op_le qcm qcm (qdM F Y.b_max (qaa qae (qaa (qab 0) qac))) (qab 1) (qbo rfl Y.c_MOST_TURNS)))))))))⟩
abbrev zcl:Stmt:=top 26
theorem qgr (Y:Facts K mg) (zdK:Callee P w K mg base 2 "are_turns" 2 zbd) (zdO:Callee P w K mg base 1 "is_choice" 2 zbJ) {a:Addr}:DVQ P w K mg base ["names","thing","choice"] 2 "is_part" zcl zdr 2 a:=⟨by subst_eqs,rfl,fun _ xo _ _ _ _ _ _ F=>
 (qad (qaE (PW.pt (qaU (qaz (qaD F.z (qav F Y.b_isinstance (qaa (qab 1) (qaa (qaJ rfl Y.b_tuple (by decide +kernel)) qac))))) (qaU (qbV F (qaG F Y.b_len (qaa (qab 1) qac)) qae) (qaP (qaz (qaD F.z (xe_c F xo zdK (qaa (qap F (qab 1) qae) (qaa (qap F (qab 1) qae) qac)))))))))
 (qag (qah qa8))
 qak)
 (qad (qaE (PW.pt (qaU (qaz (qaD F.z (qav F Y.b_isinstance (qaa (qap F (qab 1) qae) (qaa (qaJ rfl Y.b_tuple (by decide +kernel)) qac))))) (qaP (qaz (qdI op_le op_le qcm qcm qae (qaG F Y.b_len (qaa (qap F (qab 1) qae) qac)) (qbo rfl Y.c_MOST_ROW))))))
 (qag (qah qa8))
 qak)
 (qag (qah (qc1 F Y.b_all (qaa (qev F (qba F (qap F (qab 1) qae)) [("choice",2)]
  (fun F=>(qan F.nd rfl (.inl rfl)))
  (fun F=>qbp)
  (fun F=>(xe_c F xo zdO (qaa (qab 0) (qaa (qab 2) qac))))) qac))))))⟩
abbrev zbn:Stmt:=top 27
theorem qd5 (Y:Facts K mg) (zdS:Callee P w K mg base 1 "names_of" 1 zbH) (zdX:Callee P w K mg base 3 "is_part" 2 zct) {a:Addr}:DVQ P w K mg base ["kinds","thing","names","part"] 2 "is_pattern" zbn zcu 3 a:=⟨by subst_eqs,rfl,fun _ xo _ _ _ _ _ _ F=>
 (qad (qaE (PW.pt (qaU (qaz (qaD F.z (qav F Y.b_isinstance (qaa (qab 1) (qaa (qaJ rfl Y.b_tuple (by decide +kernel)) qac))))) (qaU (qbV F (qaG F Y.b_len (qaa (qab 1) qac)) qae) (qaP (qaz (qaD F.z (qav F Y.b_isinstance (qaa (qap F (qab 1) qae) (qaa (qaJ rfl Y.b_bool (by decide +kernel)) qac)))))))))
 (qag (qah qa8))
 qak)
 (qad (qaE (PW.pt (qaU (qaz (qaD F.z (qav F Y.b_isinstance (qaa (qap F (qab 1) qae) (qaa (qaJ rfl Y.b_tuple (by decide +kernel)) qac))))) (qaP (qdL (qaG F Y.b_len (qaa (qap F (qab 1) qae) qac)) (qbo rfl Y.c_MOST_PARTS)))))
 (qag (qah qa8))
 qak)
 (qad (xs_r F.nd (xe_c F xo zdS (qaa (qab 0) qac)))
 (qag (qah (qc1 F Y.b_all (qaa (qev F (qba F (qap F (qab 1) qae)) [("part",3)]
  (fun F=>(qan F.nd rfl (.inl rfl)))
  (fun F=>qbp)
  (fun F=>(xe_c F xo zdX (qaa (qab 2) (qaa (qab 3) qac))))) qac)))))))⟩
abbrev zbq:Stmt:=top 28
theorem qd6 (Y:Facts K mg) {a:Addr}:DVQ P w K mg base ["part","row","least","most"] 1 "part_units" zbq zch 0 a:=⟨by subst_eqs,rfl,fun _ xo _ _ _ _ _ _ F=>
 (qad (qja (qab 0) (qgv F.K F.calm (qa5 (qan F.nd rfl (.inl rfl)) (qa5 (qan F.nd rfl (.inl rfl)) (qa5 (qan F.nd rfl (.inl rfl)) qeH)))))
 (qad (qaE (qlK (qab 3) qfk)
 (qag (qah (qaW F (qaG F Y.b_len (qaa (qab 1) qac)) (qdM F Y.b_max (qaa qae (qaa (qab 2) qac))))))
 qak)
 (qag (qah (qaW F (qaG F Y.b_len (qaa (qab 1) qac)) (qab 3))))))⟩
abbrev zdq:Stmt:=top 29
theorem qi9 (Y:Facts K mg) (zdE:Callee P w K mg base 1 "part_units" 1 zbs) {a:Addr}:DVQ P w K mg base ["pattern","part"] 1 "units" zdq zdN 1 a:=⟨by subst_eqs,rfl,fun _ xo _ _ _ _ _ _ F=>
 (qag (qah (qgP F Y.b_sum (qaa (qev F (qba F (qap F (qab 0) qae)) [("part",1)]
  (fun F=>(qan F.nd rfl (.inl rfl)))
  (fun F=>qbp)
  (fun F=>(xe_c F xo zdE (qaa (qab 1) qac)))) qac))))⟩
abbrev zcs:Stmt:=top 35
theorem qgs (Y:Facts K mg) (zci:Callee P w K mg base 1 "is_text" 1 zaG) (zdi:Callee P w K mg base 4 "is_pattern" 2 zaB) {a:Addr}:DVQ P w K mg base ["kinds","thing"] 2 "is_rule" zcs zdo 4 a:=⟨by subst_eqs,rfl,fun _ xo _ _ _ _ _ _ F=>
 (qad (qaE (PW.pt (qaU (qaz (qaD F.z (qav F Y.b_isinstance (qaa (qab 1) (qaa (qaJ rfl Y.b_tuple (by decide +kernel)) qac))))) (qaU (qbV F (qaG F Y.b_len (qaa (qab 1) qac)) qae) (qaU (qaz (qaD F.z (xe_c F xo zci (qaa (qap F (qab 1) qae) qac)))) (qaP (qfp F (qap F (qab 1) qae) (qaQ (qaa (qb7 (by decide +kernel) rfl Y.c_CUT) (qaa (qb7 (by decide +kernel) rfl Y.c_KEEP) qac)))))))))
 (qag (qah qa8))
 qak)
 (qag (qah (qgt (xe_c F xo zdi (qaa (qab 0) (qaa (qap F (qab 1) qae) qac))) (qfm (xe_c F xo zdi (qaa (qab 0) (qaa (qap F (qab 1) qae) qac))))))))⟩
abbrev zaI:Stmt:=top 36
theorem qcy (Y:Facts K mg) (zdV:Callee P w K mg base 5 "is_rule" 2 zb1) (zef:Callee P w K mg base 2 "units" 1 zdn) {a:Addr}:DVQ P w K mg base ["kinds","rules","thing","side","rule"] 2 "look_at_rules" zaI za0 5 a:=⟨by subst_eqs,rfl,fun _ xo _ _ _ _ _ _ F=>
 (qad (qaE (PW.pt (qaU (qaz (qaD F.z (qav F Y.b_isinstance (qaa (qab 1) (qaa (qaJ rfl Y.b_list (by decide +kernel)) qac))))) (qaP (qdL (qaG F Y.b_len (qaa (qab 1) qac)) (qbo rfl Y.c_MOST_RULES)))))
 (qag (qa6 F Y.x_NoBook.choose_spec rfl))
 qak)
 (qad (qbn F (qba F (qab 1)) (qan F.nd rfl (.inl rfl))
 (qa7 [2] (qag (qaE (qaz (qaD F.z (xe_c F xo zdV (qaa (qab 0) (qaa (qab 2) qac)))))
 (qag (qa6 F Y.x_NoBook.choose_spec rfl))
 qak))))
 (qag (qbn F (qba F (qaQ (qaa qae (qaa qae qac)))) (qan F.nd rfl (.inr rfl))
 (qa7 [3] (qag (qaE (qdL (qgP F Y.b_sum (qaa (qev F (qba F (qab 1)) [("rule",4)]
  (fun F=>(qan F.nd rfl (.inl rfl)))
  (fun F=>qbp)
  (fun F=>(xe_c F xo zef (qaa (qap F (qab 4) (qab 3)) qac)))) qac)) (qbo rfl Y.c_MOST_UNITS))
 (qag (qa6 F Y.x_NoBook.choose_spec rfl))
 qak)))))))⟩
abbrev zaK:Stmt:=inClass (top 37) 0
theorem qcz (Y:Facts K mg) (zdt:Callee P w K mg base 3 "look_at_kinds" 1 zaf) (zdu:Callee P w K mg base 6 "look_at_rules" 2 zad) {a:Addr}:DVQ P w K mg base ["self","kinds","rules"] 3 "Book.__init__" zaK za4 6 a:=⟨by subst_eqs,rfl,fun _ xo _ _ _ _ _ _ F=>
 (qad (qbg (qfL [1] F xo (fun c xo F=>(xe_c F xo zdt (qaa (qab 1) qac)))))
 (qad (qbg (qfL [1,2] F xo (fun c xo F=>(xe_c F xo zdu (qaa (qab 1) (qaa (qab 2) qac))))))
 (qad (qg9 Y.fl_Book_own_kinds F.z (qab 0) (qbh F Y.b_list (qaa (qab 1) qac)))
 (qag (qg9 Y.fl_Book_own_rules F.z (qab 0) (qbh F Y.b_list (qaa (qab 2) qac)))))))⟩
abbrev zbp:Stmt:=inClass (top 37) 1
theorem qd7 (Y:Facts K mg) {a:Addr}:DVQ P w K mg base ["self"] 1 "Book.kinds" zbp zdh 0 a:=⟨by subst_eqs,rfl,fun _ xo _ _ _ _ _ _ F=>
 (qag (qah (qbh F Y.b_list (qaa (qjn Y.fl_Book_own_kinds F.z (qab 0)) qac))))⟩
abbrev zbt:Stmt:=inClass (top 37) 2
theorem qd8 (Y:Facts K mg) {a:Addr}:DVQ P w K mg base ["self"] 1 "Book.rules" zbt zcz 0 a:=⟨by subst_eqs,rfl,fun _ xo _ _ _ _ _ _ F=>
 (qag (qah (qbh F Y.b_list (qaa (qjn Y.fl_Book_own_rules F.z (qab 0)) qac))))⟩
abbrev zdI:Stmt:=top 39
theorem qlp (Y:Facts K mg) (zaL:MethOk P w K mg base 1 "Book" "kinds" 1 zai) (zax:MkOk P w K mg base 7 "Book" 3 zaa) (zaA:MethOk P w K mg base 1 "Book" "rules" 1 zac) {a:Addr}:DVQ P w K mg base ["one","other"] 2 "over" zdI zd3 8 a:=⟨by subst_eqs,rfl,fun _ xo _ _ _ _ _ _ F=>
 (qad (qaE (qbV F (qaM F xo zaL (by decide) (qab 0)) (qaM F xo zaL (by decide) (qab 1)))
 (qag (qa6 F Y.x_Unlike.choose_spec rfl))
 qak)
 (qag (qah (qha F xo zax (by decide) rfl (qaa (qaM F xo zaL (by decide) (qab 0)) (qaa (qat F.z (qaM F xo zaA (by decide) (qab 0)) (qaM F xo zaA (by decide) (qab 1))) qac))))))⟩
abbrev zaT:Stmt:=top 41
theorem qdl (Y:Facts K mg) {a:Addr}:DVQ P w K mg base ["_law_script","_law_k"] 2 "_law_cell_at" zaT zbV 0 a:=⟨by subst_eqs,rfl,fun _ xo _ _ _ _ _ _ F=>
 (qad (qaE (qnE (qab 1) (qaG F Y.b_len (qaa (qab 0) qac)))
 (qag (qah (qap F (qab 0) (qab 1))))
 qak)
 (qag (qah qae)))⟩
abbrev zbr:Stmt:=top 42
theorem qd9 (Y:Facts K mg) {a:Addr}:DVQ P w K mg base ["_law_cell","_law_sizes","_law_found","_law_left","_law_k","_law_small","_law_one","_law_two"] 2 "_law_drawn" zbr zcm 0 a:=⟨by subst_eqs,rfl,fun _ xo _ _ _ _ _ _ F=>
 (qad (xs_s F.nd (qaC qac))
 (qad (xs_s F.nd (qab 0))
 (qad (qdr 2 (qbn F (qbz F rfl Y.b_range (qaG F Y.b_len (qaa (qab 1) qac))) (qan F.nd rfl (.inl rfl))
 (qag (qaE (qnF (qab 3) (qgM qae qae))
 (qad (qbg (qa1 F.z (qab 2) (qco (qab 3) (qap F (qab 1) (qab 4)))))
 (qag (xs_s F.nd (qef (qab 3) (qap F (qab 1) (qab 4))))))
 (qad (xs_s F.nd (qco (qab 3) (qgM qae qae)))
 (qad (xs_s F.nd (qco (qaW F (qat F.z (qat F.z (qab 5) (qaW F qae (qab 4))) qae) (qat F.z qae (qaW F (qaW F qae (qab 4)) (qab 4)))) qae))
 (qad (xs_s F.nd (qco (qaW F (qat F.z (qat F.z (qef (qab 5) qae) (qaW F qae (qab 4))) qae) (qat F.z qae (qaW F qae (qab 4)))) qae))
 (qag (qbg (qa1 F.z (qab 2) (qco (qat F.z (qaW F (qab 6) (qab 7)) (qef (qab 6) qae)) (qap F (qab 1) (qab 4)))))))))))))
 (qag (qah (qab 2))))))⟩
abbrev zbo:Stmt:=top 43
theorem qea (Y:Facts K mg) {a:Addr}:DVQ P w K mg base ["_law_cell","_law_many","_law_letters","_law_size","_law_at","_law_names_here","_law_k","_law_name","_law_j","_law_shift"] 2 "_law_names" zbo zcI 0 a:=⟨by subst_eqs,rfl,fun _ xo _ _ _ _ _ _ F=>
 (qad (xs_s F.nd (qaF))
 (qad (xs_s F.nd (qat F.z qae (qco (qab 0) qae)))
 (qad (xs_s F.nd (qco (qef (qab 0) qae) (qab 3)))
 (qad (xs_s F.nd (qaC qac))
 (qad (qdr 5 (qbn F (qbz F rfl Y.b_range (qab 1)) (qan F.nd rfl (.inl rfl))
 (qad (xs_s F.nd (qaF))
 (qad (qbn F (qbz F rfl Y.b_range (qab 3)) (qan F.nd rfl (.inl rfl))
 (qad (xs_s F.nd (qaW F (qaW F qae (qab 6)) (qki F Y.b_int (qaa (qlJ F (qab 8) (qab 4)) qac))))
 (qag (xs_s F.nd (qat F.z (qab 7) (qap F (qab 2) (qco (qat F.z (qat F.z (qef (qab 0) qae) (qaW F (qaW F qae (qab 8)) (qab 8))) (qab 9)) qae)))))))
 (qag (qbg (qa1 F.z (qab 5) (qab 7))))))))
 (qag (qah (qab 5))))))))⟩
abbrev zbu:Stmt:=top 44
theorem qeb (Y:Facts K mg) {a:Addr}:DVQ P w K mg base [] 0 "_law_plain" zbu zcr 0 a:=⟨by subst_eqs,rfl,fun _ xo _ _ _ _ _ _ F=>
 (qag (qah (qaF)))⟩
abbrev zaw:Stmt:=top 45
theorem qb4 (Y:Facts K mg) {a:Addr}:DVQ P w K mg base ["_law_name","_law_left","_law_right","_law_parts","_law_many","_law_some","_law_much"] 3 "_law_units_rule" zaw zca 0 a:=⟨by subst_eqs,rfl,fun _ xo _ _ _ _ _ _ F=>
 (qad (xs_s F.nd (qaC qac))
 (qad (qdr 3 (qbn F (qba F (qaC (qaa (qab 1) (qaa (qab 2) qac)))) (qan F.nd rfl (.inl rfl))
 (qa7 [4,5,6] (qad (xs_s F.nd (qaC qac))
 (qad (qdr 5 (qbn F (qba F (qaC (qaa (qgQ F Y.b_min (qaa qae (qaa (qab 4) qac))) (qaa (qdM F Y.b_max (qaa qae (qaa (qjk (qab 4) qae) qac))) qac)))) (qan F.nd rfl (.inl rfl))
 (qa7 [6] (qag (qaE (qdL (qab 6) qae)
 (qag (qbg (qa1 F.z (qab 5) (qaQ (qaa (qaQ (qaa (qaQ (qaa (qab 0) qac)) qac)) (qaa (qab 6) (qaa (qab 6) qac)))))))
 qak)))))
 (qag (qbg (qa1 F.z (qab 3) (qaQ (qaa qa8 (qaa (qgO F Y.b_tuple (qaa (qab 5) qac)) qac)))))))))))
 (qag (qah (qaQ (qaa (qaF) (qaa (qap F (qab 3) qae) (qaa (qap F (qab 3) qae) qac))))))))⟩
abbrev zap:Stmt:=top 46
theorem qbx (Y:Facts K mg) (zdb:Callee P w K mg base 1 "_law_units_rule" 3 zaN) {a:Addr}:DVQ P w K mg base ["_law_draws","_law_name","_law_many","_law_left","_law_right","_law_rules"] 2 "_law_counted_rules" zap zbC 1 a:=⟨by subst_eqs,rfl,fun _ xo _ _ _ _ _ _ F=>
 (qad (qja (qab 0) (qgv F.K F.calm (qa5 (qan F.nd rfl (.inl rfl)) (qa5 (qan F.nd rfl (.inl rfl)) (qa5 (qan F.nd rfl (.inl rfl)) qeH)))))
 (qad (xs_s F.nd (qaC (qaa (xe_c F xo zdb (qaa (qab 1) (qaa (qab 3) (qaa (qab 4) qac)))) qac)))
 (qag (qah (qat F.z (qab 5) (qaW F (qaC (qaa (qaQ (qaa (qaF) (qaa (qaQ (qaa qa8 (qaa (qaQ qac) qac))) (qaa (qaQ (qaa qa8 (qaa (qaQ qac) qac))) qac)))) qac)) (qab 2)))))))⟩
abbrev zaF:Stmt:=top 47
theorem qck (Y:Facts K mg) {a:Addr}:DVQ P w K mg base ["_law_kinds","_law_others","_law_one","_law_other","_law_draws"] 5 "_law_due_class" zaF zcg 0 a:=⟨by subst_eqs,rfl,fun _ xo _ _ _ _ _ _ F=>
 (qad (qaE (qbV F (qab 0) (qab 1))
 (qag (qah (qaF)))
 qak)
 (qad (qaE (PW.pt (qaU (qdL (qat F.z (qaG F Y.b_len (qaa (qab 2) qac)) (qaG F Y.b_len (qaa (qab 3) qac))) qae) (qaU (qdL (qat F.z (qap F (qab 4) qae) (qap F (qab 4) qae)) qae) (qaP (qdL (qat F.z (qap F (qab 4) qae) (qap F (qab 4) qae)) qae)))))
 (qag (qah (qaF)))
 qak)
 (qag (qah (qaF)))))⟩
abbrev zak:Stmt:=top 48
theorem qcA:FnScope ["_law_call","_law_error","e","_law_found"] ["_law_call"] (defScope zak):=⟨rfl,rfl,rfl,by decide +kernel,rfl,by decide +kernel,by decide +kernel⟩
theorem qcB (Y:Facts K mg) {a:Addr} (c:Ct) (f0:Addr) (r:R D) (cdv:Value) (A:Around) (outer:List Env) (s:Shared) (H:Hp) (xo:c.xo=none) (F:Fit (cxOf (L2.CX P w) P w K mg base ["_law_call","_law_error","e","_law_found"] "_law_class_of" (defScope zak) a cdv A outer s H noE) c 0)
  (Q1:LamOk0 (cxOf (L2.CX P w) P w K mg base ["_law_call","_law_error","e","_law_found"] "_law_class_of" (defScope zak) a cdv A outer s H noE) c f0 "_law_call" r) :
  PSs (cxOf (L2.CX P w) P w K mg base ["_law_call","_law_error","e","_law_found"] "_law_class_of" (defScope zak) a cdv A outer s H noE) (defBody zak) (rS1 c f0 (zbO r)):=by
 unfold zbO
 exact (qho (qm4 (qaI F.nd rfl (.inl rfl) qfk))
 (qhp F xo Y.xt Y.h_CutError.choose_spec rfl rfl rfl rfl rfl (fun pn xe W F=>(qiR (qiS (Q1 pn xe W _ _ _ F))))
 (fun pn a oe C dd c cY F=>(qag (qaI F.nd rfl (.inl rfl) (qab 2))))
 (fun pn c kY F=>(qad (qaE (qlK (qab 1) qfk)
 (qag (qah (qaF)))
 qak)
 (qad (qaI F.nd rfl (.inl rfl) (qaC (qaa (qca Y.xt kY F.z Y.b_isinstance (qaa (qab 1) (qaa (qep F.z rfl Y.h_NoRule.choose_spec) qac))) (qaa (qca Y.xt kY F.z Y.b_isinstance (qaa (qab 1) (qaa (qep F.z rfl Y.h_TooMany.choose_spec) qac))) (qaa (qca Y.xt kY F.z Y.b_isinstance (qaa (qab 1) (qaa (qep F.z rfl Y.h_Unlike.choose_spec) qac))) qac)))))
 (qad (qaI F.nd rfl (.inl rfl) (qat F.z (qab 3) (qaC (qaa (qca Y.xt kY F.z Y.b_isinstance (qaa (qab 1) (qaa (qep F.z rfl Y.h_NoBook.choose_spec) qac))) (qaa (qca Y.xt kY F.z Y.b_isinstance (qaa (qab 1) (qaa (qep F.z rfl Y.h_NoKinds.choose_spec) qac))) qac)))))
 (qad (qaE (PW.pt (qaU (qbV F (qiy F (qab 3) (qaa qa8 qac)) qae) (qaP (qaz (qaD F.z (qca Y.xt kY F.z Y.b_isinstance (qaa (qab 1) (qaa (qks F.z rfl Y.b_ValueError) qac))))))))
 (qag (qah (qaF)))
 qak)
 (qag (qah (qap F (qaC (qaa (qaF) (qaa (qaF) (qaa (qaF) (qaa (qaF) (qaa (qaF) qac)))))) (qeg F (qab 3) (qaa qa8 qac))))))))))))
theorem qcC (Y:Facts K mg) {a:Addr} {fd:FuncData} (Fn:Fun K "_law_class_of" "_law_class_of" zak a fd) (hm:mg "_law_class_of" = some (.ref a)) (hb:Binds K fd ["_law_call"] []):MkLOk P w K mg base "_law_class_of" zae:=
 qm5 Fn hm hb qcA rfl (.inl rfl) (by decide) (by decide) fun c f0 r cdv A outer s H xo F Q1=>qcB Y c f0 r cdv A outer s H xo F Q1
abbrev zcd:Stmt:=top 49
theorem qnn:FnScope ["_law_script","_law_k","_law_cell","_law_draws","_law_names_here","_law_plain_here","_law_at","_law_kinds","_law_others","_law_one","_law_other","_law_first","_law_second","_law_due","_law_turn"] ["_law_script"] (defScope zcd):=⟨rfl,rfl,rfl,by decide +kernel,rfl,by decide +kernel,by decide +kernel⟩
theorem qno (Y:Facts K mg) (zbU:Callee P w K mg base 1 "_law_cell_at" 2 zaq) (zcx:Callee P w K mg base 1 "_law_drawn" 2 zas) (zcJ:Callee P w K mg base 1 "_law_names" 2 zaz) (zcD:Callee P w K mg base 1 "_law_plain" 0 zaC) (zav:Callee P w K mg base 2 "_law_counted_rules" 2 zag) (zax:MkOk P w K mg base 7 "Book" 3 zaa) (zbw:Callee P w K mg base 1 "_law_due_class" 5 zar) (za5:MkLOk P w K mg base "_law_class_of" zae) (zdD:Callee P w K mg base 9 "over" 2 zbZ) (zaA:MethOk P w K mg base 1 "Book" "rules" 1 zac) (zaL:MethOk P w K mg base 1 "Book" "kinds" 1 zai) {a:Addr} {cc PP:Addr} (TB:LamX.TabB base mg cc PP) (hmT:(PP,("law.<locals>.<lambda>" : Str))∈TabI.T) (hu:∀ p∈TabI.T,p.1=PP→p.2=("law.<locals>.<lambda>" : Str)) (c:Ct) (xo:c.xo=none) (A:Around) (outer:List Env) (s:Shared) (H:Hp) (E:XK) (F:Fit (cxOf (L2.CX P w) P w K mg base ["_law_script","_law_k","_law_cell","_law_draws","_law_names_here","_law_plain_here","_law_at","_law_kinds","_law_others","_law_one","_law_other","_law_first","_law_second","_law_due","_law_turn"] "law" (defScope zcd) a (.ref cc) A outer s H E) c 11) :
  PSs (cxOf (L2.CX P w) P w K mg base ["_law_script","_law_k","_law_cell","_law_draws","_law_names_here","_law_plain_here","_law_at","_law_kinds","_law_others","_law_one","_law_other","_law_first","_law_second","_law_due","_law_turn"] "law" (defScope zcd) a (.ref cc) A outer s H E) (defBody zcd) (rS c zdU):=by
 unfold zdU
 exact (qad (qbn F (qbz F rfl Y.b_range (qdM F Y.b_max (qaa qae (qaa (qgQ F Y.b_min (qaa (qaG F Y.b_len (qaa (qab 0) qac)) (qaa qae qac))) qac)))) (qan F.nd rfl (.inl rfl))
 (qa7 [1,2,3,4,5,6,7,8,9,10,11,12,13,14] (qad (qaI F.nd rfl (.inl rfl) (qa9 F xo zbU (by decide) rfl (qaa (qab 0) (qaa (qab 1) qac))))
 (qad (qaI F.nd rfl (.inl rfl) (qa9 F xo zcx (by decide) rfl (qaa (qab 2) (qaa (qaC (qaa qae (qaa qae (qaa qae (qaa qae (qaa qae (qaa qae (qaa qae (qaa (qgM qae qae) (qaa qae qac)))))))))) qac))))
 (qad (qaI F.nd rfl (.inl rfl) (qa9 F xo zcJ (by decide) rfl (qaa (qap F (qab 3) qae) (qaa qae qac))))
 (qad (qaI F.nd rfl (.inl rfl) (qil F xo zcD (by decide) rfl))
 (qad (qaI F.nd rfl (.inl rfl) (qap F (qab 3) qae))
 (qad (qaI F.nd rfl (.inl rfl) (qaC (qaa (qaQ (qaa (qap F (qab 4) qae) (qaa (qcY F (qab 5) (qa0 (qab 6)) (qa0 (qat F.z (qab 6) qae))) qac))) (qaa (qaQ (qaa (qap F (qab 4) qae) (qaa (qcY F (qab 5) (qa0 (qat F.z (qab 6) qae)) (qa0 (qat F.z (qab 6) qae))) qac))) qac))))
 (qad (qaI F.nd rfl (.inl rfl) (qaC (qaa (qlY F (qab 7)) (qaa (qaC (qaa (qaQ (qaa (qap F (qab 4) qae) (qaa (qap F (qap F (qab 7) qae) qae) qac))) (qaa (qap F (qab 7) qae) qac))) (qaa (qat F.z (qcY F (qab 7) qj4 (qa0 qae)) (qaC (qaa (qaQ (qaa (qap F (qab 4) qae) (qaa (qcY F (qab 5) (qa0 (qat F.z (qab 6) qae)) (qa0 (qat F.z (qab 6) qae))) qac))) qac))) qac)))))
 (qad (qaI F.nd rfl (.inl rfl) (qap F (qat F.z (qat F.z (qab 8) (qaC (qaa (qcY F (qab 7) qj4 (qa0 qae)) (qaa (qat F.z (qab 7) (qaC (qaa (qaQ (qaa (qap F (qab 4) qae) (qaa (qap F (qab 5) (qat F.z (qab 6) qae)) qac))) qac))) qac)))) (qaW F (qaC (qaa (qbh F Y.b_list (qaa (qab 7) qac)) qac)) qae)) (qap F (qab 3) qae)))
 (qad (qaI F.nd rfl (.inl rfl) (qa9 F xo zav (by decide) rfl (qaa (qcY F (qab 3) qj4 (qa0 qae)) (qaa (qap F (qab 4) qae) qac))))
 (qad (qaI F.nd rfl (.inl rfl) (qa9 F xo zav (by decide) rfl (qaa (qcY F (qab 3) (qa0 qae) (qa0 qae)) (qaa (qap F (qap F (qab 8) qae) qae) qac))))
 (qad (qaI F.nd rfl (.inr rfl) (qha F xo zax (by decide) rfl (qaa (qbh F Y.b_list (qaa (qab 7) qac)) (qaa (qab 9) qac))))
 (qad (qaI F.nd rfl (.inr rfl) (qha F xo zax (by decide) rfl (qaa (qbh F Y.b_list (qaa (qab 8) qac)) (qaa (qab 10) qac))))
 (qad (qaI F.nd rfl (.inl rfl) (qa9 F xo zbw (by decide) rfl (qaa (qab 7) (qaa (qab 8) (qaa (qab 9) (qaa (qab 10) (qaa (qab 3) qac)))))))
 (qad (qbn F (qbz F rfl Y.b_range qae) (qan F.nd rfl (.inl rfl))
 (qa7 [14] (qad (qaE (qbV F (qjz (j1:=9) F xo za5 (by rfl) TB rfl hmT hu
  ⟨qfR (sc:=defScope zcd) (by decide +kernel),qjy (N:=["_law_script","_law_k","_law_cell","_law_draws","_law_names_here","_law_plain_here","_law_at","_law_kinds","_law_others","_law_one","_law_other","_law_first","_law_second","_law_due","_law_turn"]) (cs:=[11,12]) (caps:=["_law_first","_law_second"]) (by decide +kernel),rfl,by decide +kernel,fun _=>rfl,fun _ _ _ _ _=>rfl,fun c2 xo cl f c' A outer t H1 E F=>(qa9 F xo zdD (by decide) rfl (qaa (qab 0) (qaa (qab 1) qac)))⟩ (by decide)) (qab 13))
 (qag (qah qa8))
 qak)
 (qag (qaE (qbV F (qjz (j1:=9) F xo za5 (by rfl) TB rfl hmT hu
  ⟨qfR (sc:=defScope zcd) (by decide +kernel),qjy (N:=["_law_script","_law_k","_law_cell","_law_draws","_law_names_here","_law_plain_here","_law_at","_law_kinds","_law_others","_law_one","_law_other","_law_first","_law_second","_law_due","_law_turn"]) (cs:=[11,12]) (caps:=["_law_first","_law_second"]) (by decide +kernel),rfl,by decide +kernel,fun _=>rfl,fun _ _ _ _ _=>rfl,fun c2 xo cl f c' A outer t H1 E F=>(qa9 F xo zdD (by decide) rfl (qaa (qab 1) (qaa (qab 0) qac)))⟩ (by decide)) (qab 13))
 (qag (qah qa8))
 qak)))))
 (qad (qaE (PW.pt (qlt (qkh F (qab 13) (qaF)) (qjP (qbV F (qaM F xo zaA (by decide) (qa9 F xo zdD (by decide) rfl (qaa (qab 11) (qaa (qab 12) qac)))) (qat F.z (qab 9) (qab 10))))))
 (qag (qah qa8))
 qak)
 (qag (qaE (PW.pt (qaU (qbV F (qaM F xo zaA (by decide) (qab 11)) (qab 9)) (qaU (qbV F (qaM F xo zaA (by decide) (qab 12)) (qab 10)) (qaP (qbV F (qaM F xo zaL (by decide) (qab 12)) (qab 8))))))
 (qag (qah qa8))
 qak)))))))))))))))))))
 (qag (qah qa8)))
theorem qnp (Y:Facts K mg) {a:Addr} {kV doc pm ct oc:Value} {an od:Option Addr} {osl:Array (Option Value)} {cc PP:Addr} (TB:LamX.TabB base mg cc PP) (hmT:(PP,("law.<locals>.<lambda>" : Str))∈TabI.T) (hu:∀ p∈TabI.T,p.1=PP→p.2=("law.<locals>.<lambda>" : Str))
  (lk:K.lookup a=some ⟨oc,od,.func (PySem.W.fnOf "law" "law" (defArgs zcd) (defBody zcd) (defScope zcd) .none kV doc pm an (.ref cc) ct),osl⟩) (hcd:PySem.W.codeIn K (.ref cc) "law" = true) (zbU:Callee P w K mg base 1 "_law_cell_at" 2 zaq) (zcx:Callee P w K mg base 1 "_law_drawn" 2 zas) (zcJ:Callee P w K mg base 1 "_law_names" 2 zaz) (zcD:Callee P w K mg base 1 "_law_plain" 0 zaC) (zav:Callee P w K mg base 2 "_law_counted_rules" 2 zag) (zax:MkOk P w K mg base 7 "Book" 3 zaa) (zbw:Callee P w K mg base 1 "_law_due_class" 5 zar) (za5:MkLOk P w K mg base "_law_class_of" zae) (zdD:Callee P w K mg base 9 "over" 2 zbZ) (zaA:MethOk P w K mg base 1 "Book" "rules" 1 zac) (zaL:MethOk P w K mg base 1 "Book" "kinds" 1 zai):FnOk P w K mg base (L2.CX P w) 12 a (PySem.W.fnOf "law" "law" (defArgs zcd) (defBody zcd) (defScope zcd) .none kV doc pm an (.ref cc) ct) ["_law_script"] (spD K mg w 1 zeb):=by
 have h:=qm3 (P:=P) (w:=w) (mg:=mg) (base:=base) (k:=11) (n:=1) (b:=zdU) lk hcd qnn rfl (qno Y zbU zcx zcJ zcD zav zax zbw za5 zdD zaA zaL TB hmT hu)
 exact h
end
end TT

set_option maxHeartbeats 2000000
namespace TT
open PySem PySem.Spec PyProof.Rows L2 PySem.W
local macro_rules | `(tactic| nofun) => `(tactic| exact fun _ _ _ _ _ _ us hl => match us, hl with | [_], _ => rfl)
local macro_rules | `(tactic| and_intros) => `(tactic| exact fun _ _ _ _ _ _ us hl => match us, hl with | [_, _], _ => rfl)
local macro_rules | `(tactic| exfalso) => `(tactic| exact fun _ _ _ _ _ _ us hl => match us, hl with | [_, _, _], _ => rfl)
local macro_rules | `(tactic| infer_instance) => `(tactic| exact fun _ _ _ _ _ _ us hl => match us, hl with | [_, _, _, _], _ => rfl)
set_option maxHeartbeats 0 in
theorem qnq {l:OpenLaw} {w:World} {K:Frag} {h:Heap} {mg:Str→Option Value} {fa:Addr} (X:K.In h) (G:h.Ns mainGlobals mg) (hfa:mg "law" = some (.ref fa)) (tabs:∀ P∈([304]:List Addr),h.get? P=some (tabObj #[])) {f0 f1 f2 f3 f4 f5 f6 f7 f8 f9 f10 f11 f12 f13 f14 f15 f16 f17 f18 f19 f20 f21 f22 f23 f24 f25 f26:Addr}
  {K_Book:Addr} (zcV:nsIn K mainGlobals "Book" = some (some (.ref K_Book)))
  (zcL:plainGet K K_Book Str.empty=true) (zcN:hasDictIn K K_Book=true) (zcM:plainOver K K_Book=true) (zcO:findIn K (.ref K_Book) "__setattr__" = some (some (.builtin "object.__setattr__")))
  (zdy:makesIn K K_Book=true) (zdA:keepIn K (.ref K_Book)=true)
  (zbe:findIn K (.ref K_Book) "own_kinds" = some none)
  (zbc:findIn K (.ref K_Book) "own_rules" = some none)
  {od0 an0:Option Addr} {sl0:Array (Option Value)} {oc0 kV0 dc0 pm0 cd0 ct0:Value}
  (a0:nsIn K mainGlobals "is_whole" = some (some (.ref f0))) (l0:K.lookup f0=some ⟨oc0,od0,.func (fnOf "is_whole" "is_whole" (defArgs zb5) (defBody zb5) (defScope zb5) .none kV0 dc0 pm0 an0 cd0 ct0),sl0⟩) (c0:codeIn K cd0 "is_whole" = true) (k0:keepIn K (.ref f0)=true)
  {od1 an1:Option Addr} {sl1:Array (Option Value)} {oc1 kV1 dc1 pm1 cd1 ct1:Value}
  (a1:nsIn K mainGlobals "is_text" = some (some (.ref f1))) (l1:K.lookup f1=some ⟨oc1,od1,.func (fnOf "is_text" "is_text" (defArgs zcw) (defBody zcw) (defScope zcw) .none kV1 dc1 pm1 an1 cd1 ct1),sl1⟩) (c1:codeIn K cd1 "is_text" = true) (k1:keepIn K (.ref f1)=true)
  {od2 an2:Option Addr} {sl2:Array (Option Value)} {oc2 kV2 dc2 pm2 cd2 ct2:Value}
  (a2:nsIn K mainGlobals "is_kind_name" = some (some (.ref f2))) (l2:K.lookup f2=some ⟨oc2,od2,.func (fnOf "is_kind_name" "is_kind_name" (defArgs zaU) (defBody zaU) (defScope zaU) .none kV2 dc2 pm2 an2 cd2 ct2),sl2⟩) (c2:codeIn K cd2 "is_kind_name" = true) (k2:keepIn K (.ref f2)=true)
  {od3 an3:Option Addr} {sl3:Array (Option Value)} {oc3 kV3 dc3 pm3 cd3 ct3:Value}
  (a3:nsIn K mainGlobals "are_signs" = some (some (.ref f3))) (l3:K.lookup f3=some ⟨oc3,od3,.func (fnOf "are_signs" "are_signs" (defArgs zbL) (defBody zbL) (defScope zbL) .none kV3 dc3 pm3 an3 cd3 ct3),sl3⟩) (c3:codeIn K cd3 "are_signs" = true) (k3:keepIn K (.ref f3)=true)
  {od4 an4:Option Addr} {sl4:Array (Option Value)} {oc4 kV4 dc4 pm4 cd4 ct4:Value}
  (a4:nsIn K mainGlobals "look_at_kinds" = some (some (.ref f4))) (l4:K.lookup f4=some ⟨oc4,od4,.func (fnOf "look_at_kinds" "look_at_kinds" (defArgs zaJ) (defBody zaJ) (defScope zaJ) .none kV4 dc4 pm4 an4 cd4 ct4),sl4⟩) (c4:codeIn K cd4 "look_at_kinds" = true) (k4:keepIn K (.ref f4)=true)
  {od5 an5:Option Addr} {sl5:Array (Option Value)} {oc5 kV5 dc5 pm5 cd5 ct5:Value}
  (a5:nsIn K mainGlobals "names_of" = some (some (.ref f5))) (l5:K.lookup f5=some ⟨oc5,od5,.func (fnOf "names_of" "names_of" (defArgs zb4) (defBody zb4) (defScope zb4) .none kV5 dc5 pm5 an5 cd5 ct5),sl5⟩) (c5:codeIn K cd5 "names_of" = true) (k5:keepIn K (.ref f5)=true)
  {od6 an6:Option Addr} {sl6:Array (Option Value)} {oc6 kV6 dc6 pm6 cd6 ct6:Value}
  (a6:nsIn K mainGlobals "is_choice" = some (some (.ref f6))) (l6:K.lookup f6=some ⟨oc6,od6,.func (fnOf "is_choice" "is_choice" (defArgs zbQ) (defBody zbQ) (defScope zbQ) .none kV6 dc6 pm6 an6 cd6 ct6),sl6⟩) (c6:codeIn K cd6 "is_choice" = true) (k6:keepIn K (.ref f6)=true)
  {od7 an7:Option Addr} {sl7:Array (Option Value)} {oc7 kV7 dc7 pm7 cd7 ct7:Value}
  (a7:nsIn K mainGlobals "are_turns" = some (some (.ref f7))) (l7:K.lookup f7=some ⟨oc7,od7,.func (fnOf "are_turns" "are_turns" (defArgs zbR) (defBody zbR) (defScope zbR) .none kV7 dc7 pm7 an7 cd7 ct7),sl7⟩) (c7:codeIn K cd7 "are_turns" = true) (k7:keepIn K (.ref f7)=true)
  {od8 an8:Option Addr} {sl8:Array (Option Value)} {oc8 kV8 dc8 pm8 cd8 ct8:Value}
  (a8:nsIn K mainGlobals "is_part" = some (some (.ref f8))) (l8:K.lookup f8=some ⟨oc8,od8,.func (fnOf "is_part" "is_part" (defArgs zcl) (defBody zcl) (defScope zcl) .none kV8 dc8 pm8 an8 cd8 ct8),sl8⟩) (c8:codeIn K cd8 "is_part" = true) (k8:keepIn K (.ref f8)=true)
  {od9 an9:Option Addr} {sl9:Array (Option Value)} {oc9 kV9 dc9 pm9 cd9 ct9:Value}
  (a9:nsIn K mainGlobals "is_pattern" = some (some (.ref f9))) (l9:K.lookup f9=some ⟨oc9,od9,.func (fnOf "is_pattern" "is_pattern" (defArgs zbn) (defBody zbn) (defScope zbn) .none kV9 dc9 pm9 an9 cd9 ct9),sl9⟩) (c9:codeIn K cd9 "is_pattern" = true) (k9:keepIn K (.ref f9)=true)
  {od10 an10:Option Addr} {sl10:Array (Option Value)} {oc10 kV10 dc10 pm10 cd10 ct10:Value}
  (a10:nsIn K mainGlobals "part_units" = some (some (.ref f10))) (l10:K.lookup f10=some ⟨oc10,od10,.func (fnOf "part_units" "part_units" (defArgs zbq) (defBody zbq) (defScope zbq) .none kV10 dc10 pm10 an10 cd10 ct10),sl10⟩) (c10:codeIn K cd10 "part_units" = true) (k10:keepIn K (.ref f10)=true)
  {od11 an11:Option Addr} {sl11:Array (Option Value)} {oc11 kV11 dc11 pm11 cd11 ct11:Value}
  (a11:nsIn K mainGlobals "units" = some (some (.ref f11))) (l11:K.lookup f11=some ⟨oc11,od11,.func (fnOf "units" "units" (defArgs zdq) (defBody zdq) (defScope zdq) .none kV11 dc11 pm11 an11 cd11 ct11),sl11⟩) (c11:codeIn K cd11 "units" = true) (k11:keepIn K (.ref f11)=true)
  {od12 an12:Option Addr} {sl12:Array (Option Value)} {oc12 kV12 dc12 pm12 cd12 ct12:Value}
  (a12:nsIn K mainGlobals "is_rule" = some (some (.ref f12))) (l12:K.lookup f12=some ⟨oc12,od12,.func (fnOf "is_rule" "is_rule" (defArgs zcs) (defBody zcs) (defScope zcs) .none kV12 dc12 pm12 an12 cd12 ct12),sl12⟩) (c12:codeIn K cd12 "is_rule" = true) (k12:keepIn K (.ref f12)=true)
  {od13 an13:Option Addr} {sl13:Array (Option Value)} {oc13 kV13 dc13 pm13 cd13 ct13:Value}
  (a13:nsIn K mainGlobals "look_at_rules" = some (some (.ref f13))) (l13:K.lookup f13=some ⟨oc13,od13,.func (fnOf "look_at_rules" "look_at_rules" (defArgs zaI) (defBody zaI) (defScope zaI) .none kV13 dc13 pm13 an13 cd13 ct13),sl13⟩) (c13:codeIn K cd13 "look_at_rules" = true) (k13:keepIn K (.ref f13)=true)
  {od14 an14:Option Addr} {sl14:Array (Option Value)} {oc14 kV14 dc14 pm14 cd14 ct14:Value}
  (a14:findIn K (.ref K_Book) "__init__" = some (some (.ref f14))) (j14:isFn K (.ref f14)=true) (l14:K.lookup f14=some ⟨oc14,od14,.func (fnOf "__init__" "Book.__init__" (defArgs zaK) (defBody zaK) (defScope zaK) .none kV14 dc14 pm14 an14 cd14 ct14),sl14⟩) (c14:codeIn K cd14 "Book.__init__" = true) (k14:keepIn K (.ref f14)=true)
  {od15 an15:Option Addr} {sl15:Array (Option Value)} {oc15 kV15 dc15 pm15 cd15 ct15:Value}
  (a15:findIn K (.ref K_Book) "kinds" = some (some (.ref f15))) (j15:isFn K (.ref f15)=true) (l15:K.lookup f15=some ⟨oc15,od15,.func (fnOf "kinds" "Book.kinds" (defArgs zbp) (defBody zbp) (defScope zbp) .none kV15 dc15 pm15 an15 cd15 ct15),sl15⟩) (c15:codeIn K cd15 "Book.kinds" = true) (k15:keepIn K (.ref f15)=true)
  {od16 an16:Option Addr} {sl16:Array (Option Value)} {oc16 kV16 dc16 pm16 cd16 ct16:Value}
  (a16:findIn K (.ref K_Book) "rules" = some (some (.ref f16))) (j16:isFn K (.ref f16)=true) (l16:K.lookup f16=some ⟨oc16,od16,.func (fnOf "rules" "Book.rules" (defArgs zbt) (defBody zbt) (defScope zbt) .none kV16 dc16 pm16 an16 cd16 ct16),sl16⟩) (c16:codeIn K cd16 "Book.rules" = true) (k16:keepIn K (.ref f16)=true)
  {od17 an17:Option Addr} {sl17:Array (Option Value)} {oc17 kV17 dc17 pm17 cd17 ct17:Value}
  (a17:nsIn K mainGlobals "over" = some (some (.ref f17))) (l17:K.lookup f17=some ⟨oc17,od17,.func (fnOf "over" "over" (defArgs zdI) (defBody zdI) (defScope zdI) .none kV17 dc17 pm17 an17 cd17 ct17),sl17⟩) (c17:codeIn K cd17 "over" = true) (k17:keepIn K (.ref f17)=true)
  {od18 an18:Option Addr} {sl18:Array (Option Value)} {oc18 kV18 dc18 pm18 cd18 ct18:Value}
  (a18:nsIn K mainGlobals "_law_cell_at" = some (some (.ref f18))) (l18:K.lookup f18=some ⟨oc18,od18,.func (fnOf "_law_cell_at" "_law_cell_at" (defArgs zaT) (defBody zaT) (defScope zaT) .none kV18 dc18 pm18 an18 cd18 ct18),sl18⟩) (c18:codeIn K cd18 "_law_cell_at" = true) (k18:keepIn K (.ref f18)=true)
  {od19 an19:Option Addr} {sl19:Array (Option Value)} {oc19 kV19 dc19 pm19 cd19 ct19:Value}
  (a19:nsIn K mainGlobals "_law_drawn" = some (some (.ref f19))) (l19:K.lookup f19=some ⟨oc19,od19,.func (fnOf "_law_drawn" "_law_drawn" (defArgs zbr) (defBody zbr) (defScope zbr) .none kV19 dc19 pm19 an19 cd19 ct19),sl19⟩) (c19:codeIn K cd19 "_law_drawn" = true) (k19:keepIn K (.ref f19)=true)
  {od20 an20:Option Addr} {sl20:Array (Option Value)} {oc20 kV20 dc20 pm20 cd20 ct20:Value}
  (a20:nsIn K mainGlobals "_law_names" = some (some (.ref f20))) (l20:K.lookup f20=some ⟨oc20,od20,.func (fnOf "_law_names" "_law_names" (defArgs zbo) (defBody zbo) (defScope zbo) .none kV20 dc20 pm20 an20 cd20 ct20),sl20⟩) (c20:codeIn K cd20 "_law_names" = true) (k20:keepIn K (.ref f20)=true)
  {od21 an21:Option Addr} {sl21:Array (Option Value)} {oc21 kV21 dc21 pm21 cd21 ct21:Value}
  (a21:nsIn K mainGlobals "_law_plain" = some (some (.ref f21))) (l21:K.lookup f21=some ⟨oc21,od21,.func (fnOf "_law_plain" "_law_plain" (defArgs zbu) (defBody zbu) (defScope zbu) .none kV21 dc21 pm21 an21 cd21 ct21),sl21⟩) (c21:codeIn K cd21 "_law_plain" = true) (k21:keepIn K (.ref f21)=true)
  {od22 an22:Option Addr} {sl22:Array (Option Value)} {oc22 kV22 dc22 pm22 cd22 ct22:Value}
  (a22:nsIn K mainGlobals "_law_units_rule" = some (some (.ref f22))) (l22:K.lookup f22=some ⟨oc22,od22,.func (fnOf "_law_units_rule" "_law_units_rule" (defArgs zaw) (defBody zaw) (defScope zaw) .none kV22 dc22 pm22 an22 cd22 ct22),sl22⟩) (c22:codeIn K cd22 "_law_units_rule" = true) (k22:keepIn K (.ref f22)=true)
  {od23 an23:Option Addr} {sl23:Array (Option Value)} {oc23 kV23 dc23 pm23 cd23 ct23:Value}
  (a23:nsIn K mainGlobals "_law_counted_rules" = some (some (.ref f23))) (l23:K.lookup f23=some ⟨oc23,od23,.func (fnOf "_law_counted_rules" "_law_counted_rules" (defArgs zap) (defBody zap) (defScope zap) .none kV23 dc23 pm23 an23 cd23 ct23),sl23⟩) (c23:codeIn K cd23 "_law_counted_rules" = true) (k23:keepIn K (.ref f23)=true)
  {od24 an24:Option Addr} {sl24:Array (Option Value)} {oc24 kV24 dc24 pm24 cd24 ct24:Value}
  (a24:nsIn K mainGlobals "_law_due_class" = some (some (.ref f24))) (l24:K.lookup f24=some ⟨oc24,od24,.func (fnOf "_law_due_class" "_law_due_class" (defArgs zaF) (defBody zaF) (defScope zaF) .none kV24 dc24 pm24 an24 cd24 ct24),sl24⟩) (c24:codeIn K cd24 "_law_due_class" = true) (k24:keepIn K (.ref f24)=true)
  {od25 an25:Option Addr} {sl25:Array (Option Value)} {oc25 kV25 dc25 pm25 cd25 ct25:Value}
  (a25:nsIn K mainGlobals "_law_class_of" = some (some (.ref f25))) (l25:K.lookup f25=some ⟨oc25,od25,.func (fnOf "_law_class_of" "_law_class_of" (defArgs zak) (defBody zak) (defScope zak) .none kV25 dc25 pm25 an25 cd25 ct25),sl25⟩) (c25:codeIn K cd25 "_law_class_of" = true) (k25:keepIn K (.ref f25)=true)
  {od26 an26:Option Addr} {sl26:Array (Option Value)} {oc26 kV26 dc26 pm26 ct26:Value}
  {cc26:Addr} (hd26:codeHdIn K cc26 304=true) (nk26:K.lookup 304=none)
  (a26:nsIn K mainGlobals "law" = some (some (.ref f26))) (l26:K.lookup f26=some ⟨oc26,od26,.func (fnOf "law" "law" (defArgs zcd) (defBody zcd) (defScope zcd) .none kV26 dc26 pm26 an26 (.ref cc26) ct26),sl26⟩) (c26:codeIn K (.ref cc26) "law" = true) (k26:keepIn K (.ref f26)=true)
  (zaX:nsIn K mainGlobals "ValueError" = some none)
  (zd8:nsIn K mainGlobals "all" = some none)
  (zdW:nsIn K mainGlobals "bool" = some none)
  (zed:nsIn K mainGlobals "int" = some none)
  (zco:nsIn K mainGlobals "isinstance" = some none)
  (zd7:nsIn K mainGlobals "len" = some none)
  (zdY:nsIn K mainGlobals "list" = some none)
  (zea:nsIn K mainGlobals "max" = some none)
  (zd5:nsIn K mainGlobals "min" = some none)
  (zcR:nsIn K mainGlobals "range" = some none)
  (zd4:nsIn K mainGlobals "set" = some none)
  (zdz:nsIn K mainGlobals "sorted" = some none)
  (zd6:nsIn K mainGlobals "str" = some none)
  (zee:nsIn K mainGlobals "sum" = some none)
  (zdM:nsIn K mainGlobals "tuple" = some none)
  {zei:Tok} (zd9:nsIn K mainGlobals "CUT" = some (some (.str "cut" zei)))
  {zeh:Tok} (zd2:nsIn K mainGlobals "KEEP" = some (some (.str "keep" zeh)))
  {zdZ:Tok} (zds:nsIn K mainGlobals "LETTERS" = some (some (.str "abcdefghijklmnopqrstuvwxyz" zdZ)))
  {zdF:Tok} (zcj:nsIn K mainGlobals "MOST_KINDS" = some (some (.int 6 zdF)))
  {zdB:Tok} (zcy:nsIn K mainGlobals "MOST_PARTS" = some (some (.int 5 zdB)))
  {zdR:Tok} (zdd:nsIn K mainGlobals "MOST_ROW" = some (some (.int 3 zdR)))
  {zdJ:Tok} (zcv:nsIn K mainGlobals "MOST_RULES" = some (some (.int 12 zdJ)))
  {zdC:Tok} (zcF:nsIn K mainGlobals "MOST_SIGNS" = some (some (.int 60 zdC)))
  {zdG:Tok} (zcn:nsIn K mainGlobals "MOST_TURNS" = some (some (.int 6 zdG)))
  {zdH:Tok} (zcK:nsIn K mainGlobals "MOST_UNITS" = some (some (.int 12 zdH)))
  {zeg:Tok} (zd1:nsIn K mainGlobals "REST" = some (some (.str "rest" zeg)))
  {zec:Tok} (zdP:nsIn K mainGlobals "SIGNS" = some (some (.str " !\"#$&'()*+,-./0123456789:;<=>?@ABCDEFGHIJKLMNOPQRSTUVWXYZ[\\]^_`abcdefghijklmnopqrstuvwxyz{|}~" zec)))
  {zah:Addr} (zao:nsIn K mainGlobals "NoKinds" = some (some (.ref zah)))
  (zbG:typeIn K (.ref zah)=some (.type "type"))
  (zbF:subIn K (.ref zah) (.type "BaseException")=some true)
  (zc3:keepIn K (.ref zah)=true)
  (zc8:excIn K zah [.type "ValueError",.type "Exception",.type "BaseException",.type "object"] "ValueError.__new__" = true)
  (zcQ:findIn K (.ref zah) "__getattribute__" = some (some (.builtin "BaseException.__getattribute__")))
  (zcZ:findIn K (.ref zah) "__getattr__" = some none)
  (zcY:hasDictIn K zah=true)
  (zcS:findIn K (.ref zah) "__class__" = some (some (.builtin "object.__class__")))
  (zcT:mroIn K zah (.type "object")=some true)
  (zcc:isClsIn K zah=true)
  (zb6:subIn K (.ref zah) (.ref zah)=some true)
  {zam:Addr} (zat:nsIn K mainGlobals "NoBook" = some (some (.ref zam)))
  (zb3:typeIn K (.ref zam)=some (.type "type"))
  (zcb:subIn K (.ref zam) (.type "BaseException")=some true)
  (zdj:keepIn K (.ref zam)=true)
  (zdl:excIn K zam [.type "ValueError",.type "Exception",.type "BaseException",.type "object"] "ValueError.__new__" = true)
  (zdc:findIn K (.ref zam) "__getattribute__" = some (some (.builtin "BaseException.__getattribute__")))
  (zdg:findIn K (.ref zam) "__getattr__" = some none)
  (zc2:hasDictIn K zam=true)
  (zc5:findIn K (.ref zam) "__class__" = some (some (.builtin "object.__class__")))
  (zc9:mroIn K zam (.type "object")=some true)
  (zcE:isClsIn K zam=true)
  (zcB:subIn K (.ref zam) (.ref zam)=some true)
  {zal:Addr} (zau:nsIn K mainGlobals "Unlike" = some (some (.ref zal)))
  (zbY:typeIn K (.ref zal)=some (.type "type"))
  (zb0:subIn K (.ref zal) (.type "BaseException")=some true)
  (zdm:keepIn K (.ref zal)=true)
  (zdp:excIn K zal [.type "ValueError",.type "Exception",.type "BaseException",.type "object"] "ValueError.__new__" = true)
  (zde:findIn K (.ref zal) "__getattribute__" = some (some (.builtin "BaseException.__getattribute__")))
  (zc7:findIn K (.ref zal) "__getattr__" = some none)
  (zc6:hasDictIn K zal=true)
  (zc4:findIn K (.ref zal) "__class__" = some (some (.builtin "object.__class__")))
  (zdf:mroIn K zal (.type "object")=some true)
  (zcC:isClsIn K zal=true)
  (zcA:subIn K (.ref zal) (.ref zal)=some true)
  {zaP:Addr} (zbh:nsIn K mainGlobals "CutError" = some (some (.ref zaP)))
  (zbK:typeIn K (.ref zaP)=some (.type "type"))
  (zbP:subIn K (.ref zaP) (.type "BaseException")=some true)
  (zbM:isClsIn K zaP=true)
  (zbS:subIn K (.ref zaP) (.ref zaP)=some true)
  {zbE:Addr} (zbX:nsIn K mainGlobals "NoRule" = some (some (.ref zbE)))
  (zcH:typeIn K (.ref zbE)=some (.type "type"))
  (zcp:subIn K (.ref zbE) (.type "BaseException")=some true)
  (zcq:isClsIn K zbE=true)
  (zck:subIn K (.ref zbE) (.ref zbE)=some true)
  {za2:Addr} (zbI:nsIn K mainGlobals "TooMany" = some (some (.ref za2)))
  (zb9:typeIn K (.ref za2)=some (.type "type"))
  (zb7:subIn K (.ref za2) (.type "BaseException")=some true)
  (zb2:isClsIn K za2=true)
  (zb8:subIn K (.ref za2) (.ref za2)=some true)
  (y1:specialIn K (.builtin "object.__class__") "__get__" = some (some (.builtin "getset_descriptor.__get__"))) (y2:takesIn K (.builtin "object.__class__")=some true)
  (y3:subIn K (.type "ValueError") (.type "BaseException")=some true)
  (zaW:subIn K (.ref zah) (.ref zaP)=some true)
  (za9:subIn K (.ref zah) (.ref zbE)=some false)
  (zaZ:subIn K (.ref zah) (.ref za2)=some false)
  (zbb:subIn K (.ref zah) (.ref zal)=some false)
  (zbi:subIn K (.ref zah) (.ref zam)=some false)
  (za3:subIn K (.ref zah) (.ref zah)=some true)
  (zaM:subIn K (.ref zah) (.type "ValueError")=some true)
  (za6:subIn K (.ref zam) (.ref zaP)=some true)
  (zbz:subIn K (.ref zam) (.ref zbE)=some false)
  (zbj:subIn K (.ref zam) (.ref za2)=some false)
  (zbA:subIn K (.ref zam) (.ref zal)=some false)
  (zby:subIn K (.ref zam) (.ref zam)=some true)
  (za8:subIn K (.ref zam) (.ref zah)=some false)
  (zaQ:subIn K (.ref zam) (.type "ValueError")=some true)
  (za1:subIn K (.ref zal) (.ref zaP)=some true)
  (zbB:subIn K (.ref zal) (.ref zbE)=some false)
  (zba:subIn K (.ref zal) (.ref za2)=some false)
  (zbx:subIn K (.ref zal) (.ref zal)=some true)
  (zbv:subIn K (.ref zal) (.ref zam)=some false)
  (zbk:subIn K (.ref zal) (.ref zah)=some false)
  (zaR:subIn K (.ref zal) (.type "ValueError")=some true)
  : LamX.LawAtS l w K (L2.CX l.prog w) 12 63 "_law_script" mg fa h:=by
 cases hfa.symm.trans (mg_of X G a26)
 have X_NoKinds:XC K mg "NoKinds" zah:=⟨mg_of X G zao,zc8,zc3,zbG,⟨zcQ,zcZ,zbF,zcY,zcS,y1,y2,zcT⟩⟩
 have X_NoBook:XC K mg "NoBook" zam:=⟨mg_of X G zat,zdl,zdj,zb3,⟨zdc,zdg,zcb,zc2,zc5,y1,y2,zc9⟩⟩
 have X_Unlike:XC K mg "Unlike" zal:=⟨mg_of X G zau,zdp,zdm,zbY,⟨zde,zc7,zb0,zc6,zc4,y1,y2,zdf⟩⟩
 have Y:Facts K mg:=⟨mg_none_of X G zaX,mg_none_of X G zd8,mg_none_of X G zdW,mg_none_of X G zed,mg_none_of X G zco,mg_none_of X G zd7,mg_none_of X G zdY,mg_none_of X G zea,mg_none_of X G zd5,mg_none_of X G zcR,mg_none_of X G zd4,mg_none_of X G zdz,mg_none_of X G zd6,mg_none_of X G zee,mg_none_of X G zdM,⟨_,mg_of X G zd9⟩,⟨_,mg_of X G zd2⟩,⟨_,mg_of X G zds⟩,⟨_,mg_of X G zcj⟩,⟨_,mg_of X G zcy⟩,⟨_,mg_of X G zdd⟩,⟨_,mg_of X G zcv⟩,⟨_,mg_of X G zcF⟩,⟨_,mg_of X G zcn⟩,⟨_,mg_of X G zcK⟩,⟨_,mg_of X G zd1⟩,⟨_,mg_of X G zdP⟩,⟨_,mg_of X G zcV,⟨zcL,zcN,zcM,zcO⟩,zbe⟩,⟨_,mg_of X G zcV,⟨zcL,zcN,zcM,zcO⟩,zbc⟩,⟨_,X_NoKinds⟩,⟨_,X_NoBook⟩,⟨_,X_Unlike⟩,⟨_,mg_of X G zbh⟩,⟨_,mg_of X G zbX⟩,⟨_,mg_of X G zbI⟩,⟨_,mg_of X G zau⟩,⟨_,mg_of X G zat⟩,⟨_,mg_of X G zao⟩,(qaj (qaR (mg_of X G zao) (mg_of X G zbh) (by decide) zbM zbK zbP zbS zaW) ⟨_,X_NoKinds.toG⟩ (qaj (qaR (mg_of X G zao) (mg_of X G zbX) (by decide) zcq zcH zcp zck za9) ⟨_,X_NoKinds.toG⟩ (qaj (qaR (mg_of X G zao) (mg_of X G zbI) (by decide) zb2 zb9 zb7 zb8 zaZ) ⟨_,X_NoKinds.toG⟩ (qaj (qaR (mg_of X G zao) (mg_of X G zau) (by decide) zcC zbY zb0 zcA zbb) ⟨_,X_NoKinds.toG⟩ (qaj (qaR (mg_of X G zao) (mg_of X G zat) (by decide) zcE zb3 zcb zcB zbi) ⟨_,X_NoKinds.toG⟩ (qaj (qaR (mg_of X G zao) (mg_of X G zao) (by decide) zcc zbG zbF zb6 za3) ⟨_,X_NoKinds.toG⟩ (qaj (qg8 (mg_of X G zao) (mg_none_of X G zaX) y3 zaM) ⟨_,X_NoKinds.toG⟩ (qaj (qaR (mg_of X G zat) (mg_of X G zbh) (by decide) zbM zbK zbP zbS za6) ⟨_,X_NoBook.toG⟩ (qaj (qaR (mg_of X G zat) (mg_of X G zbX) (by decide) zcq zcH zcp zck zbz) ⟨_,X_NoBook.toG⟩ (qaj (qaR (mg_of X G zat) (mg_of X G zbI) (by decide) zb2 zb9 zb7 zb8 zbj) ⟨_,X_NoBook.toG⟩ (qaj (qaR (mg_of X G zat) (mg_of X G zau) (by decide) zcC zbY zb0 zcA zbA) ⟨_,X_NoBook.toG⟩ (qaj (qaR (mg_of X G zat) (mg_of X G zat) (by decide) zcE zb3 zcb zcB zby) ⟨_,X_NoBook.toG⟩ (qaj (qaR (mg_of X G zat) (mg_of X G zao) (by decide) zcc zbG zbF zb6 za8) ⟨_,X_NoBook.toG⟩ (qaj (qg8 (mg_of X G zat) (mg_none_of X G zaX) y3 zaQ) ⟨_,X_NoBook.toG⟩ (qaj (qaR (mg_of X G zau) (mg_of X G zbh) (by decide) zbM zbK zbP zbS za1) ⟨_,X_Unlike.toG⟩ (qaj (qaR (mg_of X G zau) (mg_of X G zbX) (by decide) zcq zcH zcp zck zbB) ⟨_,X_Unlike.toG⟩ (qaj (qaR (mg_of X G zau) (mg_of X G zbI) (by decide) zb2 zb9 zb7 zb8 zba) ⟨_,X_Unlike.toG⟩ (qaj (qaR (mg_of X G zau) (mg_of X G zau) (by decide) zcC zbY zb0 zcA zbx) ⟨_,X_Unlike.toG⟩ (qaj (qaR (mg_of X G zau) (mg_of X G zat) (by decide) zcE zb3 zcb zcB zbv) ⟨_,X_Unlike.toG⟩ (qaj (qaR (mg_of X G zau) (mg_of X G zao) (by decide) zcc zbG zbF zb6 zbk) ⟨_,X_Unlike.toG⟩ (qaj (qg8 (mg_of X G zau) (mg_none_of X G zaX) y3 zaR) ⟨_,X_Unlike.toG⟩ qiu)))))))))))))))))))))⟩
 have F0:=fun_mk (st:=zb5) l0 c0 k0
 have F1:=fun_mk (st:=zcw) l1 c1 k1
 have F2:=fun_mk (st:=zaU) l2 c2 k2
 have F3:=fun_mk (st:=zbL) l3 c3 k3
 have F4:=fun_mk (st:=zaJ) l4 c4 k4
 have F5:=fun_mk (st:=zb4) l5 c5 k5
 have F6:=fun_mk (st:=zbQ) l6 c6 k6
 have F7:=fun_mk (st:=zbR) l7 c7 k7
 have F8:=fun_mk (st:=zcl) l8 c8 k8
 have F9:=fun_mk (st:=zbn) l9 c9 k9
 have F10:=fun_mk (st:=zbq) l10 c10 k10
 have F11:=fun_mk (st:=zdq) l11 c11 k11
 have F12:=fun_mk (st:=zcs) l12 c12 k12
 have F13:=fun_mk (st:=zaI) l13 c13 k13
 have F14:=fun_mk (st:=zaK) l14 c14 k14
 have F15:=fun_mk (st:=zbp) l15 c15 k15
 have F16:=fun_mk (st:=zbt) l16 c16 k16
 have F17:=fun_mk (st:=zdI) l17 c17 k17
 have F18:=fun_mk (st:=zaT) l18 c18 k18
 have F19:=fun_mk (st:=zbr) l19 c19 k19
 have F20:=fun_mk (st:=zbo) l20 c20 k20
 have F21:=fun_mk (st:=zbu) l21 c21 k21
 have F22:=fun_mk (st:=zaw) l22 c22 k22
 have F23:=fun_mk (st:=zap) l23 c23 k23
 have F24:=fun_mk (st:=zaF) l24 c24 k24
 have F25:=fun_mk (st:=zak) l25 c25 k25
 have F26:=fun_mk (st:=zcd) l26 c26 k26
 letI:TabI:=⟨([(cc26,304,("law.<locals>.<lambda>" : Str))]:List (Addr × Addr × Str)).map (·.2)⟩
 refine qiQ (fd:=fnOf "law" "law" (defArgs zcd) (defBody zcd) (defScope zcd) .none kV26 dc26 pm26 an26 (.ref cc26) ct26) [(cc26,304,("law.<locals>.<lambda>" : Str))] X tabs (List.forall_mem_cons.mpr ⟨nk26,(fun _ z=>nomatch z)⟩) (List.forall_mem_cons.mpr ⟨hd26,(fun _ z=>nomatch z)⟩) (fun s v=>.of_eq rfl) (fun base KB GB TB=>?_)
 have TB26:=TB _ (.head _)
 have hT26:(304,("law.<locals>.<lambda>" : Str))∈TabI.T:=(show _∈([(304,("law.<locals>.<lambda>" : Str))]:List (Addr × Str)) from .head _)
 have hu26:∀ p∈TabI.T,p.1=304→p.2=("law.<locals>.<lambda>" : Str):=qn0 (T:=[(304,("law.<locals>.<lambda>" : Str))]) (by decide +kernel)
 have C0:Callee l.prog w K mg base 1 "is_whole" 1 zaY:=qai F0 (mg_of X G a0) (F0.binds (ps:=["thing"]) (by nofun)) (by have h:=fn_q (P:=l.prog) (w:=w) (base:=base) F0 (qfh Y); exact h)
 have C1:Callee l.prog w K mg base 1 "is_text" 1 zaG:=qai F1 (mg_of X G a1) (F1.binds (ps:=["thing"]) (by nofun)) (by have h:=fn_q (P:=l.prog) (w:=w) (base:=base) F1 (qgq Y); exact h)
 have C2:Callee l.prog w K mg base 2 "is_kind_name" 1 zaH:=qai F2 (mg_of X G a2) (F2.binds (ps:=["thing"]) (by nofun)) (by have h:=fn_q (P:=l.prog) (w:=w) (base:=base) F2 (qdk Y C1); exact h)
 have C3:Callee l.prog w K mg base 2 "are_signs" 1 zbf:=qai F3 (mg_of X G a3) (F3.binds (ps:=["thing"]) (by nofun)) (by have h:=fn_q (P:=l.prog) (w:=w) (base:=base) F3 (qeD Y C1); exact h)
 have C4:Callee l.prog w K mg base 3 "look_at_kinds" 1 zaf:=qai F4 (mg_of X G a4) (F4.binds (ps:=["kinds"]) (by nofun)) (by have h:=fn_q (P:=l.prog) (w:=w) (base:=base) F4 (qcx Y C3 C2); exact h)
 have C5:Callee l.prog w K mg base 1 "names_of" 1 zbH:=qai F5 (mg_of X G a5) (F5.binds (ps:=["kinds"]) (by nofun)) (by have h:=fn_q (P:=l.prog) (w:=w) (base:=base) F5 (qfi Y); exact h)
 have C6:Callee l.prog w K mg base 1 "is_choice" 2 zbJ:=qai F6 (mg_of X G a6) (F6.binds (ps:=["names","thing"]) (by and_intros)) (by have h:=fn_q (P:=l.prog) (w:=w) (base:=base) F6 (qeE Y); exact h)
 have C7:Callee l.prog w K mg base 2 "are_turns" 2 zbd:=qai F7 (mg_of X G a7) (F7.binds (ps:=["least","most"]) (by and_intros)) (by have h:=fn_q (P:=l.prog) (w:=w) (base:=base) F7 (qeF Y C0); exact h)
 have C8:Callee l.prog w K mg base 3 "is_part" 2 zct:=qai F8 (mg_of X G a8) (F8.binds (ps:=["names","thing"]) (by and_intros)) (by have h:=fn_q (P:=l.prog) (w:=w) (base:=base) F8 (qgr Y C7 C6); exact h)
 have C9:Callee l.prog w K mg base 4 "is_pattern" 2 zaB:=qai F9 (mg_of X G a9) (F9.binds (ps:=["kinds","thing"]) (by and_intros)) (by have h:=fn_q (P:=l.prog) (w:=w) (base:=base) F9 (qd5 Y C5 C8); exact h)
 have C10:Callee l.prog w K mg base 1 "part_units" 1 zbs:=qai F10 (mg_of X G a10) (F10.binds (ps:=["part"]) (by nofun)) (by have h:=fn_q (P:=l.prog) (w:=w) (base:=base) F10 (qd6 Y); exact h)
 have C11:Callee l.prog w K mg base 2 "units" 1 zdn:=qai F11 (mg_of X G a11) (F11.binds (ps:=["pattern"]) (by nofun)) (by have h:=fn_q (P:=l.prog) (w:=w) (base:=base) F11 (qi9 Y C10); exact h)
 have C12:Callee l.prog w K mg base 5 "is_rule" 2 zb1:=qai F12 (mg_of X G a12) (F12.binds (ps:=["kinds","thing"]) (by and_intros)) (by have h:=fn_q (P:=l.prog) (w:=w) (base:=base) F12 (qgs Y C1 C9); exact h)
 have C13:Callee l.prog w K mg base 6 "look_at_rules" 2 zad:=qai F13 (mg_of X G a13) (F13.binds (ps:=["kinds","rules"]) (by and_intros)) (by have h:=fn_q (P:=l.prog) (w:=w) (base:=base) F13 (qcy Y C12 C11); exact h)
 have C14:MkOk l.prog w K mg base 7 "Book" 3 zaa:=⟨_,_,_,_,mg_of X G zcV,⟨zdy,a14,j14,zdA⟩,(by have h:=fn_q (P:=l.prog) (w:=w) (base:=base) F14 (qcz Y C4 C13); exact h),F14.binds (ps:=["self","kinds","rules"]) (by exfalso)⟩
 have C15:MethOk l.prog w K mg base 1 "Book" "kinds" 1 zai:=⟨_,_,_,_,mg_of X G zcV,⟨zcL,zcN,zcM,zcO⟩,⟨a15,j15,k15⟩,(by have h:=fn_q (P:=l.prog) (w:=w) (base:=base) F15 (qd7 Y); exact h),F15.binds (ps:=["self"]) (by nofun)⟩
 have C16:MethOk l.prog w K mg base 1 "Book" "rules" 1 zac:=⟨_,_,_,_,mg_of X G zcV,⟨zcL,zcN,zcM,zcO⟩,⟨a16,j16,k16⟩,(by have h:=fn_q (P:=l.prog) (w:=w) (base:=base) F16 (qd8 Y); exact h),F16.binds (ps:=["self"]) (by nofun)⟩
 have C17:Callee l.prog w K mg base 9 "over" 2 zbZ:=qai F17 (mg_of X G a17) (F17.binds (ps:=["one","other"]) (by and_intros)) (by have h:=fn_q (P:=l.prog) (w:=w) (base:=base) F17 (qlp Y C15 C14 C16); exact h)
 have C18:Callee l.prog w K mg base 1 "_law_cell_at" 2 zaq:=qai F18 (mg_of X G a18) (F18.binds (ps:=["_law_script","_law_k"]) (by and_intros)) (by have h:=fn_q (P:=l.prog) (w:=w) (base:=base) F18 (qdl Y); exact h)
 have C19:Callee l.prog w K mg base 1 "_law_drawn" 2 zas:=qai F19 (mg_of X G a19) (F19.binds (ps:=["_law_cell","_law_sizes"]) (by and_intros)) (by have h:=fn_q (P:=l.prog) (w:=w) (base:=base) F19 (qd9 Y); exact h)
 have C20:Callee l.prog w K mg base 1 "_law_names" 2 zaz:=qai F20 (mg_of X G a20) (F20.binds (ps:=["_law_cell","_law_many"]) (by and_intros)) (by have h:=fn_q (P:=l.prog) (w:=w) (base:=base) F20 (qea Y); exact h)
 have C21:Callee l.prog w K mg base 1 "_law_plain" 0 zaC:=qai F21 (mg_of X G a21) (F21.binds (ps:=[]) fun _ _ _ _ _ _ us hl=>match us,hl with | [],_=>rfl) (by have h:=fn_q (P:=l.prog) (w:=w) (base:=base) F21 (qeb Y); exact h)
 have C22:Callee l.prog w K mg base 1 "_law_units_rule" 3 zaN:=qai F22 (mg_of X G a22) (F22.binds (ps:=["_law_name","_law_left","_law_right"]) (by exfalso)) (by have h:=fn_q (P:=l.prog) (w:=w) (base:=base) F22 (qb4 Y); exact h)
 have C23:Callee l.prog w K mg base 2 "_law_counted_rules" 2 zag:=qai F23 (mg_of X G a23) (F23.binds (ps:=["_law_draws","_law_name"]) (by and_intros)) (by have h:=fn_q (P:=l.prog) (w:=w) (base:=base) F23 (qbx Y C22); exact h)
 have C24:Callee l.prog w K mg base 1 "_law_due_class" 5 zar:=qai F24 (mg_of X G a24) (F24.binds (ps:=["_law_kinds","_law_others","_law_one","_law_other","_law_draws"]) fun _ _ _ _ _ _ us hl=>match us,hl with | [_,_,_,_,_],_=>rfl) (by have h:=fn_q (P:=l.prog) (w:=w) (base:=base) F24 (qck Y); exact h)
 have C25:MkLOk l.prog w K mg base "_law_class_of" zae:=qcC Y F25 (mg_of X G a25) (F25.binds (ps:=["_law_call"]) fun _ _ _ _ _ _ us hl=>match us,hl with | [_],_=>rfl)
 exact qlN (qnp (P:=l.prog) (w:=w) Y TB26 hT26 hu26 l26 c26 C18 C19 C20 C21 C23 C14 C24 C25 C17 C16 C15) qi8
end TT
open PySem PySem.W PyProof.Rows
local macro_rules | `(tactic| o_headL ($_f $k $a $_e)) => `(tactic| refine TH.head_split (ts := [304]) (q := TH.vw) (K := TH.pre.heap_1) (as := $a) (ek := fun _ => by kernel_rfl) (M := 40000) (d := { HeadRun.topDef TH.pw 49 with name := "law" }) (by kernel_rfl) (fun s => by kernel_rfl) TH.r1 TH.r2 (fun w os => by rw [(by kernel_rfl : ($a : List Addr) = (TH.pre.heap_1 w.params).map (·.1))]; exact TH.r3 w os) (by kernel_rfl) (by kernel_rfl) (by kernel_rfl) (by rfl) (by first | assumption | decide +kernel) (by decide +kernel) ⟨rfl, rfl, rfl, rfl, rfl, by decide +kernel⟩ ?hw ?hc)
set_option maxHeartbeats 0 in
theorem PySem.Challenge.cw_cutreach_k82_books_not_over_holds : PySem.Challenge.rw_cutreach_k82_books_not_over.Holds := by
 w_on; refine TH.law_of fun said=>?_; k_headL; (case hw=>w_witness2)
 k_fill
 refine LamX.walk_ofTs (l:=PySem.Challenge.rw_cutreach_k82_books_not_over) (n:=63) (k:=12) (x:="_law_script") (CX:=fun w=>L2.CX PySem.Challenge.pw_cutreach_k82_books_not_over w) rfl (by decide) rfl ⟨rfl,by decide,by decide⟩ (fun w h Y=>PySem.W.km_in_of Y) ?F ?hCX
 case hCX=>
  intro w H s e s' h
  obtain ⟨_,_,_,_,_,_,_,_,_,_,_,_,z⟩:=h
  exact z.elim
 case F=>
  intro w mg fa h Y KX G hmg
  have tabs:=PySem.W.km_tabs_of Y
  refine' TT.qnq KX G hmg tabs ?zcV ?zcL ?zcN ?zcM ?zcO ?zdy ?zdA ?zbe ?zbc ?a0 ?l0 ?c0 ?k0 ?a1 ?l1 ?c1 ?k1 ?a2 ?l2 ?c2 ?k2 ?a3 ?l3 ?c3 ?k3 ?a4 ?l4 ?c4 ?k4 ?a5 ?l5 ?c5 ?k5 ?a6 ?l6 ?c6 ?k6 ?a7 ?l7 ?c7 ?k7 ?a8 ?l8 ?c8 ?k8 ?a9 ?l9 ?c9 ?k9 ?a10 ?l10 ?c10 ?k10 ?a11 ?l11 ?c11 ?k11 ?a12 ?l12 ?c12 ?k12 ?a13 ?l13 ?c13 ?k13 ?a14 ?j14 ?l14 ?c14 ?k14 ?a15 ?j15 ?l15 ?c15 ?k15 ?a16 ?j16 ?l16 ?c16 ?k16 ?a17 ?l17 ?c17 ?k17 ?a18 ?l18 ?c18 ?k18 ?a19 ?l19 ?c19 ?k19 ?a20 ?l20 ?c20 ?k20 ?a21 ?l21 ?c21 ?k21 ?a22 ?l22 ?c22 ?k22 ?a23 ?l23 ?c23 ?k23 ?a24 ?l24 ?c24 ?k24 ?a25 ?l25 ?c25 ?k25 ?hd26 ?nk26 ?a26 ?l26 ?c26 ?k26 ?zaX ?zd8 ?zdW ?zed ?zco ?zd7 ?zdY ?zea ?zd5 ?zcR ?zd4 ?zdz ?zd6 ?zee ?zdM ?zd9 ?zd2 ?zds ?zcj ?zcy ?zdd ?zcv ?zcF ?zcn ?zcK ?zd1 ?zdP ?zao ?zbG ?zbF ?zc3 ?zc8 ?zcQ ?zcZ ?zcY ?zcS ?zcT ?zcc ?zb6 ?zat ?zb3 ?zcb ?zdj ?zdl ?zdc ?zdg ?zc2 ?zc5 ?zc9 ?zcE ?zcB ?zau ?zbY ?zb0 ?zdm ?zdp ?zde ?zc7 ?zc6 ?zc4 ?zdf ?zcC ?zcA ?zbh ?zbK ?zbP ?zbM ?zbS ?zbX ?zcH ?zcp ?zcq ?zck ?zbI ?zb9 ?zb7 ?zb2 ?zb8 ?y1 ?y2 ?y3 ?zaW ?za9 ?zaZ ?zbb ?zbi ?za3 ?zaM ?za6 ?zbz ?zbj ?zbA ?zby ?za8 ?zaQ ?za1 ?zbB ?zba ?zbx ?zbv ?zbk ?zaR
  (case zcV | zcL | zcN | zcM | zcO | zdy | zdA | zbe | zbc | a0 | l0 | c0 | k0 | a1 | l1 | c1 | k1 | a2 | l2 | c2 | k2 | a3 | l3 | c3 | k3 | a4 | l4 | c4 | k4 | a5 | l5 | c5 | k5 | a6 | l6 | c6 | k6 | a7 | l7 | c7 | k7 | a8 | l8 | c8 | k8 | a9 | l9 | c9 | k9 | a10 | l10 | c10 | k10 | a11 | l11 | c11 | k11 | a12 | l12 | c12 | k12 | a13 | l13 | c13 | k13 | a14 | j14 | l14 | c14 | k14 | a15 | j15 | l15 | c15 | k15 | a16 | j16 | l16 | c16 | k16 | a17 | l17 | c17 | k17 | a18 | l18 | c18 | k18 | a19 | l19 | c19 | k19 | a20 | l20 | c20 | k20 | a21 | l21 | c21 | k21 | a22 | l22 | c22 | k22 | a23 | l23 | c23 | k23 | a24 | l24 | c24 | k24 | a25 | l25 | c25 | k25 | a26 | l26 | c26 | k26 | zaX | zd8 | zdW | zed | zco | zd7 | zdY | zea | zd5 | zcR | zd4 | zdz | zd6 | zee | zdM | zd9 | zd2 | zds | zcj | zcy | zdd | zcv | zcF | zcn | zcK | zd1 | zdP | zao | zbG | zbF | zc3=>k_is)
  (case zc8=>k_exc)
  (case zcQ | zcZ | zcY | zcS | zcT | zcc | zb6 | zat | zb3 | zcb | zdj=>k_is)
  (case zdl=>k_exc)
  (case zdc | zdg | zc2 | zc5 | zc9 | zcE | zcB | zau | zbY | zb0 | zdm=>k_is)
  (case zdp=>k_exc)
  (case zde | zc7 | zc6 | zc4 | zdf | zcC | zcA | zbh | zbK | zbP | zbM | zbS | zbX | zcH | zcp | zcq | zck | zbI | zb9 | zb7 | zb2 | zb8 | y1 | y2 | y3 | zaW | za9 | zaZ | zbb | zbi | za3 | zaM | za6 | zbz | zbj | zbA | zby | za8 | zaQ | za1 | zbB | zba | zbx | zbv | zbk | zaR=>k_is)
  (case hd26=>exact (by kernel_rfl))
  (case nk26=>exact (by kernel_rfl))

