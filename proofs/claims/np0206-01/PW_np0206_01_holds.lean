import PyProof.Rows.All
import Wide.All
import OpenK.AllK
import Wide.FinOn
import Lean
import PySem.Challenge.RW_np0206_01
set_option maxRecDepth 100000
set_option autoImplicit false
set_option maxHeartbeats 4000000
set_option linter.all false
set_option Elab.async false
set_option tactic.hygienic false
section
set_option compiler.extract_closed false
set_option compiler.reuse false
open Lean
namespace Internal
theorem nTr {a b c:Nat}(h:b<=c)(k:a<=b):a<=c:=Nat.le_trans k h
theorem iTr {a b c:Int}(h:b<=c)(k:a<=b):a<=c:=Int.le_trans k h
@[elab_as_elim] theorem rq {α:Sort _}{a b:α}{M:α->Prop}(e:a=b)(h:M b):M a:=e.symm.rec h
@[elab_as_elim] theorem rr {α:Sort _}{a b:α}{M:α->Prop}(e:a=b)(h:M a):M b:=e.rec h
def zO (w:String)(k:Nat):String:=String.ofList (w.toList.drop k)
def zC (w:String):Nat:=(w.toList.headD 'a').toNat
def zK (E:List Syntax)(w r:String)(t:List Syntax):List Syntax:=
 let c:=zC w
 if c==36 then E.getD r.toNat! .missing::t
 else if c==34 then .atom .none r::t
 else if c==39 then mkIdent r.toName::t
 else if c==64 then mkCIdent r.toName::t
 else
  let d:=(zO w 2).toName
  let f:=zC r
  let n:=if c==42 then f-48 else if c==94 then 3 else c-48
  let x:=(t.take n).reverse.toArray
  (if c==42 then .node .none `Lean.Parser.Term.app #[mkCIdent d,mkNullNode x]
  else .node .none (if c==94 then `Lean.Parser.Tactic.«tactic_<;>_» else if f==116 then `Lean.Parser.Tactic++d else if f==101 then `Lean.Parser.Term++d else d) x)::t.drop n
def zS (E:List Syntax)(s:String):Syntax:=((s.splitOn " ").foldl (λt w=>zK E w (zO w 1) t) []).headD .missing
def zG {α:Type}(f:Nat->α->α)(n:Nat)(u:α):α:=n.foldRev (λi _ x=>f i x) u
def zM (f:Nat->Syntax)(n:Nat):List Syntax:=zG (λi u=>f i::u) n []
def zA (E:List Syntax)(a s b:String):List Syntax:=let w:=s.splitOn "|";zM (λi=>zS E (a++w.getD i ""++b)) w.length
def zR (E:List Syntax)(s:String):List Syntax:=zA E "\"refine " s " 2trefine"
def zL (l:List Syntax):Syntax:=mkNullNode (l.intersperse (.atom .none ";")).toArray
def zQ (l:List Syntax):Syntax:=zS [zL l] "$0 1ttacticSeq1Indented 1ttacticSeq"
def zF (l:List Syntax):Syntax:=zS [mkNullNode (zM (λi=>zS [zQ [l.getD i .missing]] "\"| $0 2xgroup") l.length).toArray] "\"first $0 2tfirst"
def zX (c:Bool)(s:List Syntax):MacroM Syntax:=if c then pure (zF s) else Macro.throwUnsupported
def zzD:Syntax:=zQ [zS [] "\"decide 0xnull 1toptConfig 2tdecide"]
def zzR:Syntax:=zQ [zF (zA [] "" "\"rfl 1ttacticRfl|\"decide 0xnull 1toptConfig 2tdecide|\"intros 0xnull 2tintros \"<;> \"rfl 1ttacticRfl ^|\"decide \"+ 'kernel 2tposConfigItem 1tconfigItem 1xnull 1toptConfig 2tdecide|\"with_unfolding_all \"rfl 1ttacticRfl 1xnull 1ttacticSeq1Indented 1ttacticSeq 2twithUnfoldingAll" "")]
def zOm (s:Syntax):MacroM Syntax:=
 let E:=[zS [zzD] "\"by $0 2ebyTactic",zS [] "\"by \"assumption 1tassumption 1xnull 1ttacticSeq1Indented 1ttacticSeq 2ebyTactic",zS [] "\"_ 1ehole",s]
 zX s[1][0].isNone (zR E "$1|$1 *1And.left|$1 *1And.right|$0|$2 *1Int.natCast_nonneg|$1 $0 *2Nat.le_trans|$1 $0 *2Nat.lt_of_le_of_lt|$1 *1And.right $0 *2Nat.le_trans|$1 *1And.right $0 *2Int.lt_of_lt_of_le|$1 *1And.left $0 *2Mine.nTr|$1 *1And.left $0 *2Mine.iTr|@Int.ofNat_le $1 $0 *2Nat.le_trans *2Iff.mpr|$2 $2 *2Nat.le_add_right|$2 $2 *2Nat.le_add_left|$2 $2 *2Nat.sub_le $1 *2Nat.le_trans|$1 $0 *2Int.add_nonneg|$1 *1And.left $0 *2Int.add_nonneg|$1 $1 *1Eq.symm *2Nat.lt_of_lt_of_eq|$2 $2 $2 *3Nat.add_right_comm"
  ++zA E "" "\"apply 'And.intro 2tapply \"<;> $3 ^|\"lia 0xnull 1toptConfig 2tlia" "")
def zCa (s:Syntax):MacroM Syntax:=
 let h:=s[1][0][1]
 let q:=s[1][0][0]
 let E:=[h,zS [] "\"_ 1ehole",s[3],mkIdent `zv,q[0][0]]
 zX (s[1].getNumArgs==1&&s[2].isNone) (if q.isNone&&h.isIdent then (if s[3].isNone then zR E "$1 $0 *1Eq.symm *2Option.some_ne_none *1False.elim|$0 *1Bool.false_ne_true *1False.elim|$1 $0 *2Option.some_ne_none *1False.elim|$0 *1Eq.symm *1Bool.false_ne_true *1False.elim|$0 *1False.elim" else [])
  ++zA E "\"induction 0xnull $0 2telimTarget 1xnull \"using '" "Or.casesOn|Option.casesOn|Bool.casesOn|List.casesOn|And.casesOn|Exists.casesOn|Prod.casesOn|Nat.casesAuxOn|Internal.EV.casesOn|Internal.PV.casesOn|Internal.SO.casesOn|PySem.Expr.casesOn|PySem.Code.casesOn|PySem.Flow.casesOn|PySem.Value.casesOn|PySem.W.WData.casesOn|Except.casesOn|Decidable.casesOn|Internal.Fld.casesOn|Internal.Lab.casesOn" " 2xnull 0xnull $2 5tinduction"
  else [zQ (zA E "" (if q.isNone then "\"generalize 0xnull" else "\"generalize $4 \": 2xnull") " $0 \"= $3 4tgeneralizeArg 1xnull 0xnull 3tgeneralize"++zA E "" "\"cases 0xnull $3 2telimTarget 1xnull 0xnull $2 4tcases" "")])
def zDe (s:Syntax):MacroM Syntax:=zX s[1][0].isNone (zR [] "@rfl *1Nat.le_of_ble_eq_true")
def yA (a:Array Syntax)(i:Nat):Syntax:=a.getD i .missing
def zRr (r:Syntax):Syntax:=
 let E:=[r[1],zS [r[1]] "$0 \".. 1eellipsis 1xnull 2eapp",zS [] "\"? \"_ 2esyntheticHole",r]
 zF (zR E (if r[0].isNone then "$0 $2 *2Mine.rq|$1 $2 *2Mine.rq" else "$0 $2 *2Mine.rr|$1 $2 *2Mine.rr")++[zS E "\"rewrite 0xnull 1toptConfig \"[ $3 1xnull \"] 3trwRuleSeq 0xnull 4trewriteSeq"])
def zRw (o:Bool)(s:Syntax):MacroM Syntax:=
 let a:=s[2][1].getSepArgs
 zX (s[1][0].isNone&&s[3].isNone&&o) [zQ (zM (λi=>zRr (yA a i)) a.size
  ++[zS [] "\"try \"with_reducible \"rfl 1ttacticRfl 1xnull 1ttacticSeq1Indented 1ttacticSeq 2twithReducible 1xnull 1ttacticSeq1Indented 1ttacticSeq 2ttacticTry_"])]
def zP1 (q:Syntax):Option Syntax:=
 if q.isOfKind ``Parser.Tactic.rcasesPat.ignore then some (zS [] "\"_ 1ehole") else if q.isOfKind ``Parser.Tactic.rcasesPat.one&&q[0].getId !=`rfl then some q[0] else none
def zP2 (p:Syntax):Option Syntax:=if p[1].isNone&&p[0][0].getNumArgs==1 then zP1 p[0][0][0] else none
def zTh (u x p:Syntax):Syntax:=zS [u,x,p] "$0 \"<;> \"obtain $2 1xnull 0xnull \":= $1 1xnull 2xnull 4tobtain ^"
def zTu (l:List Syntax):Syntax:=zS [Syntax.mkSep l.toArray (.atom .none ",")] "\"⟨ $0 \"⟩ 3trcasesPat.tuple 1xnull 1trcasesPatMed"
def zW (P:Nat->Option Syntax)(N:Nat->Syntax)(k:Nat)(u:Syntax):Syntax:=zG (λi v=>let j:=k-1-i;match P j with|some q=>zTh v (N j) q|_=>v) k u
def yI (f t:String):Syntax:=mkIdent (.mkSimple (f++t))
def yN (f:String)(e:Syntax)(a:Array Syntax)(i:Nat):Syntax:=let x:=(zP2 (yA a i)).getD (yI f (toString i));if e.isIdent&&x.getId==e.getId then yI f "s" else x
def yP (a:Array Syntax)(i:Nat):Option Syntax:=if (zP2 (yA a i)).isNone then some (yA a i)[0] else none
def yT (p:Syntax):Bool:=p[0].getNumArgs==1&&p[0][0].isOfKind ``Parser.Tactic.rcasesPat.tuple
def yQ (a:Array Syntax)(i:Nat):Option Syntax:=if yT (yA a i)[0] then yP a i else none
def yC (f:String)(e:Syntax)(N:Nat->Syntax)(n:Nat):List Syntax:=if e.isIdent then [zS [zQ (zA [e,yI f "s"] "" (if zG (λi u=>u||N i==yI f "s") n false then "\"clear $0 1xnull 2tclear|\"revert $1 1xnull 2trevert|\"intro $0 1xnull 2tintro" else "\"clear $0 1xnull 2tclear") "")] "\"try $0 2ttacticTry_"] else []
def yB (a:Array Syntax)(f:String)(e:Syntax)(N:Nat->Syntax)(t i:Nat):Syntax:=
 let n:=a.size
 let k:=if t==n then n else t-1
 let u:=zW (yP a) N k (zS [zQ (zS [e,mkNullNode (zM N k++if t==n then [] else [yI f "_"]).toArray] ("\"refine @Internal.e"++toString i++"_"++toString (t-i)++" $0 \"fun $1 0xnull \"=> \"? \"_ 2esyntheticHole 4ebasicFun 2efun 2xnull 2eapp 2trefine")::yC f e N n)] "\"( $0 \") 3tparen")
 if t==n then u else zTh u (yI f "_") (zTu (zM (λj=>yA a (k+j)) (n-k)))
def yR (a:Array Syntax)(e:Syntax)(N:Nat->Syntax):Syntax:=
 let n:=a.size
 zW (yQ a) N n (zS [e,zTu (zM (λi=>if (yQ a i).isNone then yA a i else zS [N i] "$0 1trcasesPat.one 1xnull 1trcasesPatMed 0xnull 2trcasesPatLo") n)] "\"rcases 0xnull $0 2telimTarget 1xnull \"with $1 0xnull 2trcasesPatLo 2xnull 3trcases")
def zOb (s:Syntax):MacroM Syntax:=
 let p:=s[1][0]
 let e:=s[3][1][0]
 let f:="z"++(if e.isIdent then e.getId.toString else "")
 let a:=p[0][0][1].getSepArgs
 let N:=yN f e a
 zX (s[1].getNumArgs==1&&s[2].isNone&&s[3][1].getNumArgs==1&&yT p)
  (zG (λi u=>let t:=a.size-i;zG (λj v=>if t-j<9&&t<12&&!(j==7&&t-j>4) then yB a f e N t j::v else v) (min t 8) u) (a.size-1) [yR a e N])
def yO (q:Syntax):Option Syntax:=if (zP1 q).isSome then none else some (if q.isOfKind ``Parser.Tactic.rcasesPat.paren then q[1][0] else zS [q] "$0 1xnull 1trcasesPatMed")
def zRi (s:Syntax):MacroM Syntax:=
 let a:=s[1].getArgs
 let n:=a.size
 let A (i:Nat):Syntax:=(yA a i)[0]
 let N (i:Nat):Syntax:=(zP1 (A i)).getD (yI "i" (toString i))
 zX (s[2].isNone&&zG (λi u=>u&&(yA a i).isOfKind ``Parser.Tactic.rintroPat.one) n true)
  [zW (λi=>yO (A i)) N n (zS [mkNullNode (zM N n).toArray] "\"intro $0 2tintro")]
def zWord:String:="J0 Shared b.length ac.up ac.callAs st.sl List.length_map Around bs.length Rel.el X.fz0 List.mem_cons_self if_pos congrArg l.map PySem.wpAny s.heap R.nw PySem.wpAny_pure Nat.le_trans st.sl.length if_neg h.objs.size h.get? List.length_append s.next List.mem_singleton.mp List.getElem?_map s.heap.objs.size Option.some.inj s.blocks l.length h'.get? h.elim Heap.get?_push_of_some List.range List.mem_map.mp Nat.le_refl a.ck a.ok starEach List.mem_cons.mp R.tmp.inv Int.fmod List.map_append R.temps List.mem_cons_of_mem autoParam er0.symm Internal.zzR Heap.lt_size X.hold decide_eq_true s.heap.get? List.map_map ps.length bss.map Pt.pv Option.map_eq_some_iff.mp ws.length List.getElem?_eq_getElem h1.objs.size backTo List.mem_of_getElem? List.getD_eq_getElem?_getD t.dropLast.dropLast.dropLast List.getElem?_eq_some_iff.mp of_decide_eq_true List.mem_append_left Bool.and_eq_true_iff.mp List.mem_append.mp Heap.get?_push_size List.mem_append_right Builtin.Bytes.decodersThatHold.contains PySem.wpAny_of_eq List.getElem?_append_right List.replicate PySem.wpAny_specialOf Nat.le_of_ble_eq_true List.getElem?_eq_none List.length_range t.dropLast.dropLast decide_eq_false Array.length_toList List.length_dropLast PySem.isTrue Nat.ne_of_lt items.toList items.length rows.length List.nodup_cons.mp s.heap.push List.append_assoc Nat.lt_irrefl List.getElem?_append_left Builtin.Range.rangeSize builtinLookup_eq_fast PySem.wpAny_field List.take_length Int.fdiv_eq_ediv_of_nonneg wpAny_bind Nat.lt_of_lt_of_le List.append_nil Heap.SameBut.update DictEntry t.dropLast bss.length List.take_add_one List.length_take Int.toNat_natCast Heap.SameBut List.mem_map_of_mem List.map_congr_left beq_self_eq_true mainGlobals bm_if_false NameKind.globalImplicit List.map_cons List.flatten_append R.fr.keep List.length_cons List.eq_nil_of_length_eq_zero er1.symm r.flds.map Heap.size_push Str.ofString items.size ids.length R.tmp.inv2 List.mem_iff_getElem?.mp typeLookup_type scope.names PySem.wpAny_ite_false Nat.eq_of_beq_eq_true env.cells.lookup List.nodup_nil Int.mul_nonneg h.pvI.inv Option.bind_eq_some_iff.mp t.dropLast.dropLast.dropLast.dropLast Int.natCast_nonneg es.length ForInStep.yield args.length wpAny_newObj_type aF.length PySem.Sem EVs.split env.scope.kind wpAny_callSpecial?_slot blocks.length NameKind.free NameKind.cell NameKind Bool.false_ne_true assignEach List.nodup_append.mp wpAny_call_entry Nat.lt_or_ge List.getElem?_set_self wpAny_loadPart_at r.flds.take List.nodup_cons.mpr List.mem_range.mp R'.temps Heap.get?_update_self sizeLine bss.take List.getElem?_take made.length holders.contains Sem.wp_mono Nat.zero_le Nat.lt_succ_self List.mem_map.mpr List.all_eq_true C.toBOk Bool.and_eq_true X.g.get? Builtin.Bytes.slotIsOwn typeIs_bytes decide_eq_true_eq ts.length t.dropLast.dropLast.dropLast.length Fld.size Nat.beq swappedStores scope.names.lookup emptyDict String Nat.add_assoc List.mem_filter.mp List.getElem?_drop recursionLimit c.toNat R.fzGet PySem.F.excBase_Exception PySem.F.slot_list_getitem.lookup callWith Name_function_global List.getElem?_set_ne K.lookup A.deeper wpAny_pure sysModules letOwnedTupleGo foldedSetIterable at_.toNat PySem.SeqAt.EqAt.int_int Obj.mapSeq Nat.succ_add_eq_add_succ t.dropLast.dropLast.dropLast.dropLast.length hh.objs.size h.push s.ws.map s.number s.fill.length keywordEach PySem.wpAny_attempt Int.toNat_of_nonneg Array.toList_append wpAny_typeNameOfWhole_keyiter checkBuiltinCall as.length PySem.wpAny_rule PySem.wpAny_load Nat.succ_le_succ Nat.le_add_right kvs.length R.own_slot k.toNat R.lstAt Ne.symm List.find?_cons_of_neg p.size PV.lst PRs.mono Obj.data_mapFields Nat.lt_of_le_of_lt List.pairwise_iff_getElem.mp List.map_singleton F.slot_dict_keyiterator_next Code.quiet_builtin o.data hs''.extBut excClassObj Nat.le_of_lt Nat.le_of_eq List.length_nil typeLookup t.dropLast.length swapsWithSole env.kindOf births.map X.incomp PV.bytes Nat.lt_succ_of_lt Nat.le_succ_of_le List.flatten_cons List.ext_getElem? F.plainAttrs_list t.dropLast.dropLast.length s.toks r.size PV.int H.held hideAll Around.frames_deeper l.toArray.size g.get? env.frame y.length wpAny_isInstance er2.symm binaryOp List.length_drop wpAny_isSubtype_exc spliced sizeLine_eq rs.take rest.length f.seq PySem.wpAny_holding Program Or.elim Nat.succ.inj Nat.ne_of_gt H.own_slot Builtin.Bytes.ownRelease Bool.and_eq_true_iff.mpr x.length wpAny_setField_rec subscriptTail s.heap.update k.toNat.toUInt8 instObj ds.size births.length Sem.wp_cmd_standAt List.range_succ List.prefix_append List.length_range' List.forIn_cons ExceptHandler Calls.Constant_str A.handled A.frames Option.ite_none_right_eq_some.mp rawInt findIn Nat.ne_of_beq_eq_false Nat.lt_of_succ_lt_succ List.flatten_singleton List.find?_cons_of_pos z2.mono wpAny_dictEntries s1a.heap closureFor List.size_toArray wpAny_setField wpAny_seqItems NameKind.local Ext.cons x.head?.bind l.toArray cl.lookup Value.ref Sem.wp_bind' Nat.add_comm List.nodup_append.mpr List.length_singleton List.length_replicate Int.add_zero And.intro List.lookup_cons Int.ofNat_le.mpr seqObj envOfC List.all_eq_true.mpr Int.sub_nonneg_of_le Heap.get?_none_of_le Fld.pv s.heap.IsList er3.symm backToKw List.rec all_of_map xs.length sl.length s.blocks.length q.birth kvs.map env.globals e.same births.getD WData.int R.held R'.tmp.inv2 Option.map_some Nat.le_succ List.length_set List.length List.getElem?_range List.append_inj Int.le_refl Int.ediv_nonneg A.units Int.fmod_eq_emod_of_nonneg es.map b.take Result Nat.zero_add List.mem_range.mpr LF.put b.map Int.mul_le_mul C.toAOk Builtin.bitAnd Builtin.Bytes.checkResize Array.getElem?_eq_getElem z.pvI.inv wpAny_pyIter_enum loadGlobal_global items.eraseIdxIfInBounds ini.length hs3a.extBut hs1.extBut f.size e.keep clipAt List.reverse_cons List.filterMap_cons_some List.eq_of_mem_replicate H.tmp.mono r.flds.length leaving cenv.locals beq_eq_false_iff_ne.mpr assignInOrder Nat.blt List.sum_cons List.getElem?_cons_succ List.Mem.head Int.one_mul Int.eq_ofNat_of_zero_le Builtin.Bytes.exportsOf A.under s.fill q.fill hD.snm dictOf assign Sem.nm List.not_mem_nil List.getElem_mem C.kind Builtin.Bytes.exported x.toInCall.keep ws.map vs.length theTreesLotGoes rs.length rest.toArray q2.mono q1.append noteFrame names.length h5a.objs.size hideAll_none hh.get? evalPairs e.symm ds.toList c.toUInt8 b.toArray X2.g.get? R.tmp Obj.isFreed_of_fields Nat.rec KBw.iter_typeIs Iff.rfl F.slot_zip_next C.toBOk.hold Builtin.Bytes.buffer? Array.getElem?_toList x.natAbs t.length s.TypeIs pos.line of_hideAll hs5.extBut evalArgs builtinsNs R.fr.above wpAny_loadName_local Rc.pv List.mem_of_mem_take s.heap.IsTuple rs.map pyIter newFunctionEnv letTemporaryGo b.drop Sem.wp_operate Sem.wp_holding Nat.not_lt.mpr Nat.add_le_add Int.not_lt.mpr F.keep subscripted srcv.length scr.map s.ws.length lookup_of_mem_nodup items.toList.length i.toNat h1.push gone.length elts.length births.take PySem.wpAny_onRaise PR.mono Nat.add_le_add_left List.range' List.isEmpty_iff.mp List.all_eq_true.mp Heap.get?_update_ne H.len Builtin.Bytes.write A.in1 A.depth ys.length ts.map scope.names.filter s.seq s.head pyNext o.isFreed g2.len entryFor e3.trans cs.map behindInMarks X.g.objs.size PySem.KeyKind PySem.F.slot_tuple_getitem.lookup Option.toList_some Obj.mapFields Nat.succ List.map_replicate List.map List.getElem_range List.cons.inj KBw.slot_next Int.add_assoc F.type_list_append F.slot_list_append ExcName.means D.typeIs Bool.false_or PySem.F.slot_dict_getitem.lookup AutoSeq1.list_extend_list_list_0 ws.toArray s0a.heap st''.sl src.length scope.kind scope.isGenerator scope.isCoroutine s'.heap row.length names.reverse.map hv.elim hs₂.extBut bm_if_true X.keeps Value.type Rc.size R'.tmp.inv Obj.cls_mapFields List.foldl_append Array.toList_push s.a.pv r.sort q.size h.invL R'.tmp PySem.KeysOf Nat.and_two_pow_sub_one_eq_mod Int.mul_comm Int.le_of_lt F.args_dict_keyiterator_next_1 x.cps.toList.map wpAny_execs_cons wpAny_comp_letGo h.inv R.hnd Obj.mapBytearray Nat.min_le_right Nat.min_eq_right Nat.le_of_not_lt List.prefix_refl Int.ofNat_lt.mpr F.slot_dict_itemiterator_iter F.entry_dict_keyiterator_next Array.getElem?_eq_some_iff.mp made.map hD.nm.kd bindName a.length WRecords N.filter List.getElem?_eq_none_iff.mp FB.slot_bytes_getitem.lookup xs.map x.toNat wpAny_dictEpoch valueAt rss.flatten.map relabel r.records q3.append ps.dropLast place.toNat o.ExactDict nsFind nm.lookup next.natAbs l.filterMap ks.map kla_obj k.exc.obj interactive hy'.choose_spec h1.get? fd.qualname f.fill cellsFrom_names bss.flatten bs.getD apos.atName WTm.value WShape.hasItems TopRead R.fresh R.fr.ns Option.isSome_iff_exists.mp Nat.min_le_left Nat.min_eq_left Nat.ble MX.Thrown List.sum_append List.of_mem_zip List.mem_filter IsPair Int.add_mul I.b.kok Heap.ExtBut H.turn2 H'.pop.pop.push Fld.enc Ext.put AO.room wpAny_newFunctionEnv_cells wpAny_letOwnedTupleGo_enum s.wr R.sl PySem.F.args_list_extend_2 F.slot_tuple_iterator_next s.heap.DictOfH s.heap.CodeRec o.cls isSubtype_type callType_newIn b.set PySem.F.entry_list_extend PyData.keyHash List.take_left List.getLast?_eq_getElem? List.forIn_nil List.filterMap Int.add_nonneg H1.pop.holdOne Classical.byContradiction x.cps.getD wpAny_mono wpAny_getItem_list_slice wpAny_Name scr.length p.line hs4.extBut hs'.extBut g2.get env.locals entryOfKey blocks.map bL.mpr b.getD as.map arr.toList WShape.has Value.none PySem.F.slot_list_extend PV.str List.filterMap_cons_none H.top2 H.push Builtin.List.listTooLong z2.trans wpAny_standAt wpAny_holding strange ps.take ps.foldl news.map markedBehindIn_of_false ht.mono hD.kind fnT.map evalEach er5.symm env2.scope.names.lookup bs.take beq_iff_eq.mp attributeBase R.setObj PySem.F.slot_dict_items Nat.add_sub_cancel_left Internal.KOk List.mem_cons List.map_take List.filter_cons_of_pos List.filter_cons_of_neg List.any_cons K.In Int.fdiv Heap.UpToSlots.of_keeps Comprehension C'.toBOk Bool.not_true env.scope.names.lookup b.ck PySem.wpAny_enterFrame PyProof.noPylong_small Nat.le_of_succ_le_succ Bool.or_eq_true_iff.mp xs.eraseIdxIfInBounds x.cps.all wpAny_storeName_local wpAny_notOrdered_dict wpAny_isOneOf_keyiter this.symm tabObj st.ce spliced_more s.left s.heap.nsMap r.word qs.length od.ExactDict names.zip looks_findIn lookIn l'.length ks.length i.size hi.len he.inv h3.objs.size h2.objs.size h'.inv env.builtins compareChain call_meetsIn b.ok WTm.holds St.mk R.setList Nat.sub_self List.take_append_drop List.getD List.filterMap_append List.dropLast_eq_take List.cons Int.zero_mul Int.toNat Int.pow_succ Int.mul_zero Int.lt_or_le Int.ediv_lt_of_lt_mul I.b.KI.keeps Fld.ch C.kOf C.glob Builtin.Dict.showsAll Builtin.Bytes.payload wpAny_updateSeq_pair wpAny_newFunctionEnv wpAny_letTemporaryGo items2.toList.length fd.scope.isGenerator fd.scope.isCoroutine copiedNames.contains codeAny_call_builtin PySem.wpAny_ite_true Obj.data_mapDictKeys Nat.not_succ_le_zero Nat.add_le_add_right List.range'_1_concat List.mem_flatten.mpr List.getElem?_range' F.args_object_init_2 Builtin.Dict.takeOut y.toNat xs.eraseIdx unsupported s.slots release ps.getLast? other.toNat names.Nodup hideAll_get getItem exec_Assign evalEachOpt e.key.isStr done.length dif_neg callerA acc.map StrKeys SO.list Rc.fs R.len PySem.wpAt_of_wpAny Obj.isFreed_of_dict List.take_replicate List.replicate_succ List.map_id Int.mul_one H1.top1 H.rho Fld.enc_len E'.fz C.nodbg Builtin.Range.small Builtin.Int.intBits wpAny_pyIter_tuple wpAny_pyIter_ascii w.params typeIn sc.names s.heap.IsTupleIter r.flds q.atName ps.map name_loc loadGlobal_builtin if_false h.mono g.IsCell frs_cons evalPart done.map c'.quiet bss.flatten.length bindArgs X.K.In Nat.sub_add_cancel Nat.add_right_comm List.filterMap_map Heap.IsSliceOf.new H.top1 H.sl H.many FuncData F.type_list_extend F.slot_list_extend Bool.false_eq_true x.cps.size wpAny_pyIter_slot wpAny_pyIter_list wpAny_call s1a.heap.objs.size s.ws s'.heap.Ns r.at_ items.toList.getD items.take hsb.extBut hi.len.symm.trans he.pvI.inv h'.DictOfH getMethod_builtin evs.length codeRec_of call_meets callAny.viaDunder acc.lookup TR.g.keeps R.killSlot PySem.wpAny_throw PySem.wpAny_letGo PySem.call PlainAttrs Option.some.injEq Option.map Nat.lt_trichotomy IsL.update Heap.get?_push_ne Heap.get?_push_at H2.heldGet H.nw H.hnd H.base_get H'.pop.pop F.plainAttrs_dict F.args_zip_next_1 D.get B.KI.keeps wpAny_pyIter_zip wpAny_madeBy_exc wpAny_lookBehind s.heap.IsStrIter s.heap.IsKeyIter l.flatten.length entryFor_of_tree entryFor_of_fast arm_eval_UnaryOp arm_assign_Tuple Nat.succ_ne_zero Nat.mod_eq_of_lt List.all_toArray KBw.pyIter_bytes Int.natCast_emod Int.max_eq_right Int.ediv_le_self F.slot_dict_iter F.entry_zip_next DictEntry.refKey z.inv ys.toList y2.mono vs.toArray.size updateBytearray typeOf testChain s2a.heap.NoLimit swapsWith storeName st.sl.set st.lo st.co size_of_entries setFlight scope.names.any r.qual r.name q.endLine q.elim p.sort p.getD makesIn made.take m.onRaise l.take l.Nodup keeps_K isSubtype ids.Nodup hv.out hh.push hO.kind h3.push h2.push h.flds h'.push get?_update_seq fd.code f.put f.left eD.mpr dif_pos codeAmong classAt callAny cB.mpr c.toUInt8.toNat bh.ask b'.length argsOk append_at aA.reheld a.slot X.into X.hs X'.g.get? W.few Thrown R.setSlot R.newSlot R.keeps PySem.wpAt_bind PV.tup PRs.two Nat.strongRecOn Nat.not_lt_zero Nat.le_add_left List.filter_map LS.put KasT.kasWp_bind Int.ofNat I.cx.kind H1.pop H.turn1 H.out_get H.holdNew H.fr.keep H.W.sz F.bm_bind D.dat C.nolc C.kok C.hold Bool.eq_iff_iff BindsTo Arguments written.length wpAny_newTuple wpAny_fieldsOf s1a.heap.DictOf r.ok isSubtype_stop hA'.symm.trans h'.IsTupleIter firstArgMember entry_typeCall entryFor_alias depth_under_kw R.fr List.take_zero List.drop_left List.drop_drop KBw.entry_next Heap.MadeExcOf H.bl DefRec.ofStmt? x.toInCall.ns wpAny_newList wpAny_mkBytes wpAny_handled rss.take q'.birth or_false listUpdate_at items.reverse hok.live hl.symm.trans he.symm.trans h.update h.len fm.vc fB.nm evalPart_some evalPart_none es.find? er4.symm env.qual env.blockKind comprehension cO.nm cB.mp args.any a.toList a.pos X.length R.fr.ns.keeps PySem.codeAny Operator List.take_set List.take_nil List.drop_nil Lab.held KBw.args_next Int.mul_assoc I.old H2.compToHeld Eq.trans Constant_bool CellsAre C.cellOf AS.trans A.in1.handled s1a.heap.push s1a.heap.get? st.lo.length spliced_none s.blocks.map r.pv r.prog q.pv pairs.length oe.cls layAllW_cons j.size hok.afl.symm hideAll_size hO.out hD.cnd h.find codeIn callSpecial? callFunction bootBuiltins b.size W.blen Rel.unholdAt R.heap Nat.succ_pos Nat.mul_succ Nat.lt_trans Nat.le_total Nat.beq_refl M.find List.map_nil List.flatten List.any_nil LSm.BoolsAre IsTup.typeIs Int.zero_add Int.sub_zero Int.le_of_eq Heap.FlyingW H.lst1 H.fewp GoodWG EV.loc CellsAre.get C'.kok ys.push x.cps ws.getD wpAny_letGo updateField seqEpoch_at s.put s.head.fill s.a.k s'.gens r.names r.map r.fs q2.symm q'.fill ps.getD oe.data od.data looks_clsIn left.behind items2.size i'.size hr.elim hl.symm hi.invL has_exc ha.look h2.symm h2.get? h.FunFrames fd.builtins es.getLast? er.symm e.trans body.length aF.contains a.pv W.sz S.inv Rel.dropSrc RcAt.tuples MX.own_none MX.frs_cons List.lookup Int.mul_add H2.top1 H.pre.trans H.pre H.lo H.fzGet H.co H.ce EVs.get DecidableEq Carries C.top B.kok AO.hh"
def zDig (c:Char):Nat:=let n:=c.toNat;if n<58 then n-48 else if n<91 then n-55 else n-61
def EU (T:Array String):Name->Name
 |.str .anonymous s=>match s.toList with
  |['J',a]=>(T.getD (zDig a) s).toName
  |['J',a,b]=>(T.getD (62+zDig a*62+zDig b) s).toName
  |_=>.mkSimple s
 |n=>n
def zSt (T:Array String)(s:Syntax):Syntax:=s.rewriteBottomUp λ|.node _ k a=>.node .none k a|.atom _ v=>.atom .none v|.ident _ r n p=>.ident .none r (EU T n) p|x=>x
def zDc (s:Syntax):MacroM Syntax:=
 let t:=zSt (zWord.splitOn " ").toArray s
 if s.getHeadInfo matches .none then Macro.throwUnsupported else
 pure (if t[1].isOfKind ``Parser.Command.definition||t[1].isOfKind ``Parser.Command.abbrev then t.setArg 0 (t[0].setArg 4 (zS [] "\"noncomputable 1xLean.Parser.Command.noncomputable 1xnull")) else t)
def zUn (s:Syntax):Syntax:=let a:=s[1].getArgs;mkNullNode (zM (λi=>zS [yA a i] "0xnull 0xnull 0xnull 0xnull 0xnull 0xnull 0xnull 7xLean.Parser.Command.declModifiers \"theorem $0 0xnull 2xLean.Parser.Command.declId 0xnull \": 'True 2etypeSpec 2xLean.Parser.Command.declSig \":= 'trivial 0xnull 0xnull 2xLean.Parser.Termination.suffix 0xnull 4xLean.Parser.Command.declValSimple 4xLean.Parser.Command.theorem 2xLean.Parser.Command.declaration") a.size).toArray
end Internal
end
section
set_option compiler.extract_closed false
set_option maxHeartbeats 4000000
set_option bootstrap.genMatcherCode false
set_option genSizeOf false
set_option genInjectivity false
local macro_rules (kind:=Lean.Parser.Tactic.omega)|s=>Internal.zOm s
local macro_rules (kind:=Lean.Parser.Tactic.cases)|s=>Internal.zCa s
local macro_rules (kind:=Lean.Parser.Tactic.decide)|s=>Internal.zDe s
local macro_rules (kind:=Lean.Parser.Tactic.rwSeq)|s=>Internal.zRw (s[0].getHeadInfo matches .none) s
local macro_rules (kind:=Lean.Parser.Tactic.obtain)|s=>Internal.zOb s
local macro_rules (kind:=Lean.Parser.Tactic.rintro)|s=>Internal.zRi s
local macro_rules (kind:=Lean.Parser.Command.declaration)|s=>Internal.zDc s
set_option tactic.hygienic false
section
set_option genSizeOf false
set_option genInjectivity false
namespace Internal
inductive AE
|v (i:Nat)|k (c:Nat)|ad (a b:AE)|sb (a b:AE)|ml (c:Nat) (a:AE)|mr (a:AE) (c:Nat)|ng (a:AE)|ca (a:AE)
inductive AP
|le (s:Bool) (a b:AE)|lt (s:Bool) (a b:AE)|eq (s:Bool) (a b:AE)|no (a:AP)|an (a b:AP)|oo (a b:AP)|ff
def yaG (l:List Int) (i:Nat):Int:=l.getD i 0
def yaD (l:List Int) (e:AE):Nat×Int:=AE.rec (λi=>((yaG l i).toNat,yaG l i)) (λc=>(c,JEf c)) (λ_ _ x y=>(x.1+y.1,x.2+y.2)) (λ_ _ x y=>(0,x.2 - y.2)) (λc _ x=>(c*x.1,JEf c*x.2)) (λ_ c x=>(x.1*c,x.2*JEf c)) (λ_ x=>(0,-x.2)) (λ_ x=>(0,(x.1:Int))) e
def yaS (l:List Int) (p:AP):Prop:=AP.rec (λs a b=>cond s ((yaD l a).1<=(yaD l b).1) ((yaD l a).2<=(yaD l b).2)) (λs a b=>cond s ((yaD l a).1<(yaD l b).1) ((yaD l a).2<(yaD l b).2)) (λs a b=>cond s ((yaD l a).1=(yaD l b).1) ((yaD l a).2=(yaD l b).2)) (λ_ x=>¬x) (λ_ _ x y=>x/\y) (λ_ _ x y=>x∨y) False p
def yaI (l:List Int):List Int:=J4Z [] (λx _ r=>(J8H:Int)::x::r) l
def yaA (p:List Nat):List Nat->List Nat:=J4Z (λq=>q) (λa _ r q=>J4Z (a::r []) (λb q' _=>(a+b)::r q') q) p
def yaT (p:List Nat):List Int->Int:=J4Z (λ_=>0) (λa _ r q=>J4Z 0 (λx q' _=>a*x+r q') q) p
def yaU (i:Nat):List Nat:=J64 [1] (λ_ r=>0::r) i
abbrev AL:=List Nat×List Nat
def yaP (x y:AL):AL:=(yaA x.1 y.1,yaA x.2 y.2)
def yaN (x:AL):AL:=(x.2,x.1)
def yaM (c:Nat) (x:AL):AL:=(x.1.map (c*·),x.2.map (c*·))
def yaV (v:List Int) (x:AL):Int:=yaT x.1 v - yaT x.2 v
theorem ya4 (a b c d:Int):a+b+(c+d)=a+c+(b+d):=(J7I ..).trans ((JD (a+·) (Int.add_left_comm ..)).trans (J7I ..).symm)
theorem iy (p:List Nat):yaT p []=0:=by cases p<;>rfl
theorem vI (p:List Nat):∀(q:List Nat) (v:List Int),yaT (yaA p q) v=yaT p v+yaT q v:=by
 induction p with
 |nil=>exact λq v=>(JGZ _).symm
 |cons a p ih=>
  intro q v
  cases v with
  |nil=>rw[iy,iy,iy];rfl
  |cons x v=>
   cases q with
   |nil=>
    have:=ih [] v
    show a*x+yaT (yaA p []) v=a*x+yaT p v+0
    rw[this];exact (JD _ (J4M _)).trans (J4M _).symm
   |cons b q=>
    show ((a+b:Nat):Int)*x+yaT (yaA p q) v=(a*x+yaT p v)+(b*x+yaT q v)
    rw[ih];exact (JD (·+_) (J8v (a:Int) b x)).trans (ya4 ..)
theorem vH (c:Nat) (p:List Nat):∀v:List Int,yaT (p.map (c*·)) v=c*yaT p v:=by
 induction p with
 |nil=>exact λv=>(JB3 _).symm
 |cons a p ih=>
  intro v
  cases v with
  |nil=>exact (JB3 _).symm
  |cons x v=>
   show ((c*a:Nat):Int)*x+yaT (p.map (c*·)) v=c*(a*x+yaT p v)
   rw[ih,JHR,Int.natCast_mul,JFq]
theorem EW (i:Nat):∀v:List Int,yaT (yaU i) v=yaG v i:=by
 induction i with
 |zero=>
  intro v
  cases v with
  |nil=>rfl
  |cons x v=>exact (J4M _).trans (J5V x)
 |succ i ih=>
  intro v
  cases v with
  |nil=>rfl
  |cons x v=>
   show ((0:Nat):Int)*x+yaT (yaU i) v=yaG v i
   rw[ih];exact (JD (·+_) (JB0 x)).trans (JGZ _)
theorem Dh (l:List Int):∀i,yaG (yaI l) (2*i)=(yaG l i).toNat/\yaG (yaI l) (2*i+1)=yaG l i:=by
 induction l with
 |nil=>exact λi=>⟨rfl,rfl⟩
 |cons x l ih=>exact λi=>by cases i with |zero=>exact⟨rfl,rfl⟩|succ i=>exact ih i
def yaW (l:List Int):List Int:=1::yaI l
def yaL (e:AE):AL×AL:=AE.rec (λi=>((yaU (2*i+1),[]),(yaU (2*i+2),[]))) (λc=>(([c],[]),([c],[]))) (λ_ _ x y=>(yaP x.1 y.1,yaP x.2 y.2)) (λ_ _ x y=>(([],[]),yaP x.2 (yaN y.2))) (λc _ x=>(yaM c x.1,yaM c x.2)) (λ_ c x=>(yaM c x.1,yaM c x.2)) (λ_ x=>(([],[]),yaN x.2)) (λ_ x=>(([],[]),x.1)) e
theorem oJ (v:List Int) (x y:AL):yaV v (yaP x y)=yaV v x+yaV v y:=by show yaT (yaA x.1 y.1) v - yaT (yaA x.2 y.2) v=_;rw[vI,vI];exact (JD (λz=>yaT x.1 v+yaT y.1 v+z) Int.neg_add).trans (ya4 ..)
theorem yg (v:List Int) (x:AL):yaV v (yaN x)= - yaV v x:=(Int.neg_sub _ _).symm
theorem qZ (v:List Int) (c:Nat) (x:AL):yaV v (yaM c x)=c*yaV v x:=by show yaT (x.1.map (c*·)) v - yaT (x.2.map (c*·)) v=_;rw[vH,vH];exact (Int.mul_sub ..).symm
theorem Df (l:List Int) (c:Nat):yaV (yaW l) ([c],[])=c:=by
 exact (JGa _).trans ((J4M _).trans (JBt _))
theorem De (v:List Int) (i:Nat):yaV v (yaU i,[])=yaG v i:=(JGa _).trans (EW i v)
theorem ph (l:List Int) (e:AE):yaV (yaW l) (yaL e).1=(yaD l e).1/\yaV (yaW l) (yaL e).2=(yaD l e).2:=by
 induction e with
 |v i=>exact⟨(De _ _).trans (Dh l i).1,(De _ _).trans (Dh l i).2⟩
 |k c=>exact⟨Df l c,Df l c⟩
 |ad a b h k=>exact⟨(oJ ..).trans (h.1▸k.1▸rfl),(oJ ..).trans (h.2▸k.2▸rfl)⟩
 |sb a b h k=>exact⟨rfl,(oJ ..).trans ((JD (_+·) (yg ..)).trans (h.2▸k.2▸rfl))⟩
 |ml c a h=>exact⟨(qZ ..).trans (h.1▸rfl),(qZ ..).trans (h.2▸rfl)⟩
 |mr a c h=>exact⟨(qZ ..).trans ((J7r ..).trans (h.1▸rfl)),(qZ ..).trans ((J7r ..).trans (h.2▸rfl))⟩
 |ng a h=>exact⟨rfl,(yg ..).trans (h.2▸rfl)⟩
 |ca a h=>exact⟨rfl,h.1⟩
abbrev AC:=List (List AL)
def yaH (v:List Int) (c:List AL):Prop:=J4Z True (λx _ r=>0<=yaV v x/\r) c
def yaO (v:List Int) (d:AC):Prop:=J4Z False (λc _ r=>yaH v c∨r) d
def yaX (x y:AC):AC:=J4Z [] (λc _ r=>y.map (c++·)++r) x
theorem EZ {v:List Int}{c d:List AL}(h:yaH v c) (k:yaH v d):yaH v (c++d):=by
 induction c with
 |nil=>exact k
 |cons x c ih=>exact⟨h.1,ih h.2⟩
theorem yh {v:List Int}{x y:AC}(h:yaO v x∨yaO v y):yaO v (x++y):=by
 induction x with
 |nil=>exact JX False.elim id
 |cons c x ih=>exact JX (λh=>JX .inl λh=>.inr (ih (.inl h))) λh=>.inr (ih (.inr h))
theorem EX {v:List Int}{c:List AL}{y:AC}(h:yaH v c) (k:yaO v y):yaO v (y.map (c++·)):=by
 induction y with
 |nil=>exact k
 |cons d y ih=>exact k.elim (λk=>.inl (EZ h k)) λk=>.inr (ih k)
theorem vK {v:List Int}{x y:AC}(h:yaO v x) (k:yaO v y):yaO v (yaX x y):=by
 induction x with
 |nil=>exact h
 |cons c x ih=>exact yh (JX (λh=>.inl (EX h k)) λh=>.inr (ih h))
def yaE (s:Bool) (e:AE):AL:=cond s (yaL e).1 (yaL e).2
def yaY (s:Bool) (a b:AE):AL:=yaP (yaE s b) (yaN (yaE s a))
def yaZ (s:Bool) (a b:AE):AL:=yaP (yaY s a b) ([],[1])
def yaK (p:AP):AC×AC:=AP.rec (λs a b=>([[yaY s a b]],[[yaZ s b a]])) (λs a b=>([[yaZ s a b]],[[yaY s b a]])) (λs a b=>([[yaY s a b,yaY s b a]],[[yaZ s a b],[yaZ s b a]])) (λ_ x=>(x.2,x.1)) (λ_ _ x y=>(yaX x.1 y.1,x.2++y.2)) (λ_ _ x y=>(x.1++y.1,yaX x.2 y.2)) ([],[[]]) p
def yaR (l:List Int) (s:Bool) (e:AE):Int:=cond s ((yaD l e).1:Int) (yaD l e).2
theorem lr (l:List Int) (s:Bool) (a b:AE):yaV (yaW l) (yaY s a b)=yaR l s b - yaR l s a:=by
 refine (oJ ..).trans ((JD (_+·) (yg ..)).trans ?_)
 cases s with
 |true=>exact (ph l b).1▸(ph l a).1▸rfl
 |false=>exact (ph l b).2▸(ph l a).2▸rfl
theorem pg (l:List Int) (s:Bool) (a b:AE):yaV (yaW l) (yaZ s a b)=yaR l s b - yaR l s a - 1:=by
 refine (oJ ..).trans ?_
 rw[lr];rfl
theorem yn2 {a b:Int}(h:a<b):0<=b - a - 1:=Int.le_sub_one_of_lt (Int.sub_pos_of_lt h)
theorem yi (l:List Int) (p:AP):(yaS l p->yaO (yaW l) (yaK p).1)/\(¬yaS l p->yaO (yaW l) (yaK p).2):=by
 induction p with
 |le s a b=>
  have h1:=lr l s a b;have h2:=pg l s b a
  have h:yaS l (.le s a b)↔yaR l s a<=yaR l s b:=by cases s with
   |true=>exact Int.ofNat_le.symm
   |false=>exact J66
  exact⟨λk=>.inl ⟨h1▸J4T (h.1 k),trivial⟩,λk=>.inl ⟨h2▸yn2 (Int.not_le.mp λz=>k (h.2 z)),trivial⟩⟩
 |lt s a b=>
  have h1:=pg l s a b;have h2:=lr l s b a
  have h:yaS l (.lt s a b)↔yaR l s a<yaR l s b:=by cases s with
   |true=>exact Int.ofNat_lt.symm
   |false=>exact J66
  exact⟨λk=>.inl ⟨h1▸yn2 (h.1 k),trivial⟩,λk=>.inl ⟨h2▸J4T (Int.not_lt.mp λz=>k (h.2 z)),trivial⟩⟩
 |eq s a b=>
  have h1:=lr l s a b;have h2:=lr l s b a;have h3:=pg l s a b;have h4:=pg l s b a
  have h:yaS l (.eq s a b)↔yaR l s a=yaR l s b:=by cases s with
   |true=>exact Int.ofNat_inj.symm
   |false=>exact J66
  refine⟨λk=>.inl ⟨h1▸J4T (JGb (h.1 k)),h2▸J4T (JGb (h.1 k).symm),trivial⟩,λk=> ?_⟩
  have k':=λz=>k (h.2 z)
  rcases Int.lt_or_lt_of_ne k' with q|q
  ·exact .inl ⟨h3▸yn2 q,trivial⟩
  ·exact .inr (.inl ⟨h4▸yn2 q,trivial⟩)
 |no a h=>exact⟨h.2,λk=>h.1 (J9N k)⟩
 |an a b h k=>exact⟨λz=>vK (h.1 z.1) (k.1 z.2),λz=>yh ((Classical.em (yaS l a)).elim (λq=>.inr (k.2 λr=>z ⟨q,r⟩)) λq=>.inl (h.2 q))⟩
 |oo a b h k=>exact⟨λz=>yh (z.imp h.1 k.1),λz=>vK (h.2 λq=>z (.inl q)) (k.2 λq=>z (.inr q))⟩
 |ff=>exact⟨False.elim,λ_=>.inl trivial⟩
def rdL (c:Nat):Nat:=16 ^ cond (J1z c 0) 17 c
def rdN (c:Nat):Nat×Nat:=cond (J5R (c % 16) 15) (c % 16,c / 16) (c / 256 % rdL (c / 16 % 16),c / 256 / rdL (c / 16 % 16))
def yaB (b:List AL):Nat->AL->AL×Nat:=J4Z (λc z=>(z,c)) (λx _ r c z=>r (rdN c).2 (yaP z (yaM (rdN c).1 x))) b
def yaQ (k:Nat):List Nat->List Nat->Bool:=J64 (λp n=>p.isEmpty&&n.isEmpty) (λ_ r p n=>J8p (JDr 0 0) (n.getD 0 0)&&(J1z (JDr 1 0) (n.getD 1 0)&&r (p.drop 2) (n.drop 2))) k
def yaF (z:AL):Bool:=J5R (z.1.getD 0 0) (z.2.getD 0 0)&&yaQ 16 (z.1.drop 1) (z.2.drop 1)
def yaJ (d:AC):Nat->Bool:=J4Z (λ_=>true) (λb _ r c=>yaF (yaB b c ([],[])).1&&r (yaB b c ([],[])).2) d
theorem vJ (p:List Nat) (x:Int) (v:List Int):yaT p (x::v)=JDr 0 0*x+yaT (p.drop 1) v:=by
 cases p with
 |nil=>exact ((J4M _).trans (JB0 x)).symm
 |cons a p=>rfl
theorem Dg (p:List Nat) (x y:Int) (v:List Int):yaT p (x::y::v)=JDr 0 0*x+(JDr 1 0*y+yaT (p.drop 2) v):=by
 rw[vJ,vJ]
 cases p with
 |nil=>rfl
 |cons a p=>rfl
theorem DH (k:Nat):∀(p n:List Nat) (l:List Int),yaQ k p n=true->yaT p (yaI l)<=yaT n (yaI l):=by
 induction k with
 |zero=>
  intro p n l h
  have h:=J07 h
  rw[J6o h.1,J6o h.2];exact J4s _
 |succ k ih=>
  intro p n l h
  have h1:=J07 h
  have h2:=J07 h1.2
  cases l with
  |nil=>exact (iy p).symm▸(iy n).symm▸J4s _
  |cons x l=>
   show yaT p ((J8H:Int)::x::yaI l)<=yaT n ((J8H:Int)::x::yaI l)
   rw[Dg,Dg,J19 h2.1]
   exact Int.add_le_add (Int.mul_le_mul_of_nonneg_right (J4P (J0G h1.1)) (J1G _)) (Int.add_le_add_left (ih _ _ l h2.2) _)
theorem DK {l:List Int}{z:AL}(h:yaF z=true):yaV (yaW l) z<0:=by
 have h:=J07 h
 have h1:=DH _ _ _ l h.2
 have h2:z.1.getD 0 0<z.2.getD 0 0:=J0G h.1
 show yaT z.1 (1::yaI l) - yaT z.2 (1::yaI l)<0
 rw[vJ,vJ]
 exact Int.sub_neg_of_lt (Int.add_lt_add_of_lt_of_le (JBt _▸JBt _▸J84 h2) h1)
theorem DL {l:List Int}{b:List AL}:∀{c:Nat}{z:AL},0<=yaV (yaW l) z->yaH (yaW l) b->0<=yaV (yaW l) (yaB b c z).1:=by
 induction b with
 |nil=>exact λh _=>h
 |cons x b ih=>
  intro c z h k
  refine ih ?_ k.2
  rw[oJ,qZ]
  exact J9L h (J1C (J1G _) k.1)
theorem DJ {l:List Int}{d:AC}:∀{c:Nat},yaJ d c=true->yaO (yaW l) d->False:=by
 induction d with
 |nil=>exact λ_ h=>h
 |cons b d ih=>
  intro c h k
  have h:=J07 h
  rcases k with k|k
  ·exact J6X (DL (z:=([],[])) (J4s 0) k) (DK h.1)
  ·exact ih h.2 k
def rdE (f:Nat):Nat->AE×Nat:=J64 (λc=>(.k 0,c)) (λ_ r c=>cond (J5R (c % 16) 8) (.v (c % 16),c / 16) (JAw [
 (.k (rdN (c / 16)).1,(rdN (c / 16)).2),
 (.ad (r (c / 16)).1 (r (r (c / 16)).2).1,(r (r (c / 16)).2).2),
 (.sb (r (c / 16)).1 (r (r (c / 16)).2).1,(r (r (c / 16)).2).2),
 (.ml (rdN (c / 16)).1 (r (rdN (c / 16)).2).1,(r (rdN (c / 16)).2).2),
 (.mr (r (c / 16)).1 (rdN (r (c / 16)).2).1,(rdN (r (c / 16)).2).2),
 (.ng (r (c / 16)).1,(r (c / 16)).2),
 (.ca (r (c / 16)).1,(r (c / 16)).2)] (c % 16 - 8) (.v (8+c / 16 % 16),c / 256))) f
def rd2 (g:AE->AE->AP) (c:Nat):AP×Nat:=(g (rdE 40 c).1 (rdE 40 (rdE 40 c).2).1,(rdE 40 (rdE 40 c).2).2)
def rdP (f:Nat):Nat->AP×Nat:=J64 (λc=>(.ff,c)) (λ_ r c=>JAw [
 rd2 (.le false) (c / 16),rd2 (.lt false) (c / 16),rd2 (.eq false) (c / 16),
 (.no (r (c / 16)).1,(r (c / 16)).2),
 (.an (r (c / 16)).1 (r (r (c / 16)).2).1,(r (r (c / 16)).2).2),
 (.oo (r (c / 16)).1 (r (r (c / 16)).2).1,(r (r (c / 16)).2).2),
 (.ff,c / 16),
 (.oo (.an (.eq false (.ca (.v (c / 16 % 16))) (.v (c / 16 % 16))) (.le false (.k 0) (.v (c / 16 % 16)))) (.an (.eq true (.v (c / 16 % 16)) (.k 0)) (.lt false (.v (c / 16 % 16)) (.k 0))),c / 256),
 rd2 (.le true) (c / 16),rd2 (.lt true) (c / 16),rd2 (.eq true) (c / 16),
 rd2 (λa b=>.oo (.eq true (.ad (.v (c / 16 % 16)) b) a) (.an (.eq true (.v (c / 16 % 16)) (.k 0)) (.lt true a b))) (c / 256),
 rd2 (λa b=>.oo (.an (.eq true (.v (c / 16 % 16)) a) (.le true a b)) (.an (.eq true (.v (c / 16 % 16)) b) (.le true b a))) (c / 256),
 (.an (.eq false (.ad (.ml (rdN (c / 4096)).1 (.v (c / 16 % 16))) (.v (c / 256 % 16))) (rdE 40 (rdN (c / 4096)).2).1) (.an (.le false (.k 0) (.v (c / 256 % 16))) (.lt false (.v (c / 256 % 16)) (.k (rdN (c / 4096)).1))),(rdE 40 (rdN (c / 4096)).2).2),
 (.an (.eq true (.ad (.ml (rdN (c / 4096)).1 (.v (c / 16 % 16))) (.v (c / 256 % 16))) (rdE 40 (rdN (c / 4096)).2).1) (.lt true (.v (c / 256 % 16)) (.k (rdN (c / 4096)).1)),(rdE 40 (rdN (c / 4096)).2).2),
 (.oo (.an (.eq false (.ca (.v (c / 16 % 16))) (rdE 40 (c / 256)).1) (.le false (.k 0) (rdE 40 (c / 256)).1)) (.an (.eq false (.ca (.v (c / 16 % 16))) (.ng (rdE 40 (c / 256)).1)) (.lt false (rdE 40 (c / 256)).1 (.k 0))),(rdE 40 (c / 256)).2)]
 (c % 16) (.ff,c)) f
def EY (l:List Int) (n:Nat):Nat->Prop:=J64 (λc=>yaS l (rdP 40 c).1) (λ_ r c=>yaS l (rdP 40 c).1->r (rdP 40 c).2) n
def DI (n:Nat):Nat->AC->Bool:=J64 (λc d=>yaJ (yaX d (yaK (rdP 40 c).1).2) (rdP 40 c).2) (λ_ r c d=>r (rdP 40 c).2 (yaX d (yaK (rdP 40 c).1).1)) n
def Ar (l:List Int) (c:Nat):Prop:=cond (DI (c % 16) (c / 16) [[]]) (EY l (c % 16) (c / 16)) True
theorem Gg (l:List Int) (n:Nat):∀(c:Nat) (d:AC),DI n c d=true->yaO (yaW l) d->EY l n c:=by
 induction n with
 |zero=>exact λc d h k=>J9N λz=>DJ h (vK k ((yi l _).2 z))
 |succ n ih=>exact λc d h k z=>ih _ _ h (vK k ((yi l _).1 z))
theorem zz (l:List Int) (c:Nat):Ar l c:=by
 unfold Ar
 cases h:DI (c % 16) (c / 16) [[]] with
 |true=>exact Gg l _ _ _ h (.inl trivial)
 |false=>trivial
theorem z01 {x:Int}(N:Nat):Ar [x] N:=zz ..
theorem z02 {x y:Int}(N:Nat):Ar [x,y] N:=zz ..
theorem z03 {x y z:Int}(N:Nat):Ar [x,y,z] N:=zz ..
theorem z04 {x y z t:Int}(N:Nat):Ar [x,y,z,t] N:=zz ..
theorem z05 {x y z t u:Int}(N:Nat):Ar [x,y,z,t,u] N:=zz ..
theorem z10 {a:Nat}(N:Nat):Ar [a] N:=zz ..
theorem z11 {a:Nat}{x:Int}(N:Nat):Ar [a,x] N:=zz ..
theorem z12 {a:Nat}{x y:Int}(N:Nat):Ar [a,x,y] N:=zz ..
theorem z13 {a:Nat}{x y z:Int}(N:Nat):Ar [a,x,y,z] N:=zz ..
theorem z15 {a:Nat}{x y z t u:Int}(N:Nat):Ar [a,x,y,z,t,u] N:=zz ..
theorem z20 {a b:Nat}(N:Nat):Ar [a,b] N:=zz ..
theorem z21 {a b:Nat}{x:Int}(N:Nat):Ar [a,b,x] N:=zz ..
theorem z22 {a b:Nat}{x y:Int}(N:Nat):Ar [a,b,x,y] N:=zz ..
theorem z23 {a b:Nat}{x y z:Int}(N:Nat):Ar [a,b,x,y,z] N:=zz ..
theorem z30 {a b c:Nat}(N:Nat):Ar [a,b,c] N:=zz ..
theorem z31 {a b c:Nat}{x:Int}(N:Nat):Ar [a,b,c,x] N:=zz ..
theorem z32 {a b c:Nat}{x y:Int}(N:Nat):Ar [a,b,c,x,y] N:=zz ..
theorem z40 {a b c d:Nat}(N:Nat):Ar [a,b,c,d] N:=zz ..
theorem z41 {a b c d:Nat}{x:Int}(N:Nat):Ar [a,b,c,d,x] N:=zz ..
theorem z42 {a b c d:Nat}{x y:Int}(N:Nat):Ar [a,b,c,d,x,y] N:=zz ..
theorem z50 {a b c d e:Nat}(N:Nat):Ar [a,b,c,d,e] N:=zz ..
theorem z60 {a b c d e f:Nat}(N:Nat):Ar [a,b,c,d,e,f] N:=zz ..
theorem fT {x:Int}:((J8H:Int)=x/\0<=x)∨(J8H=0/\x<0):=(JB4 x 0).elim (λh=>.inr ⟨Int.toNat_of_nonpos (J7s h),h⟩) λh=>.inl ⟨J2X h,h⟩
theorem fS {a b:Nat}:(a - b+b=a)∨(a - b=0/\a<b):=(J1Y a b).elim (λh=>.inr ⟨Nat.sub_eq_zero_of_le (J2y h),h⟩) λh=>.inl (JCM h)
theorem fM {a b:Nat}:(min a b=a/\a<=b)∨(min a b=b/\b<=a):=(JGR a b).elim (λh=>.inl ⟨J8o h,h⟩) λh=>.inr ⟨J81 h,h⟩
theorem fA {x:Int}:((J6B:Int)=x/\0<=x)∨((J6B:Int)= -x/\x<0):=(JB4 x 0).elim (λh=>.inr ⟨Int.ofNat_natAbs_of_nonpos (J7s h),h⟩) λh=>.inl ⟨Int.natAbs_of_nonneg h,h⟩
theorem fZ {x:Int}{c:Nat}(h:Jl (J5R 0 c=true) Jn):(c:Int)*(x / c)+x % c=x/\0<=x % c/\x % c<c:=
 have h:0<(c:Int):=J84 (J0G h)
 ⟨Int.mul_ediv_add_emod x c,Int.emod_nonneg x (Int.ne_of_gt h),Int.emod_lt_of_pos x h⟩
theorem fN {x:Nat}{c:Nat}(h:Jl (J5R 0 c=true) Jn):c*(x / c)+x % c=x/\x % c<c:=
 ⟨Nat.div_add_mod x c,Nat.mod_lt _ (J0G h)⟩
end Internal
end
section
namespace Internal
theorem e0_2 {A0 A1:Prop}{C:Prop}(h:A0/\A1) (k:A0->A1->C):C:=k h.1 h.2
theorem e0_3 {A0 A1 A2:Prop}{C:Prop}(h:A0/\A1/\A2) (k:A0->A1->A2->C):C:=e0_2 h.2 (k h.1)
theorem e0_4 {A0 A1 A2 A3:Prop}{C:Prop}(h:A0/\A1/\A2/\A3) (k:A0->A1->A2->A3->C):C:=e0_3 h.2 (k h.1)
theorem e0_5 {A0 A1 A2 A3 A4:Prop}{C:Prop}(h:A0/\A1/\A2/\A3/\A4) (k:A0->A1->A2->A3->A4->C):C:=e0_4 h.2 (k h.1)
theorem e0_6 {A0 A1 A2 A3 A4 A5:Prop}{C:Prop}(h:A0/\A1/\A2/\A3/\A4/\A5) (k:A0->A1->A2->A3->A4->A5->C):C:=e0_5 h.2 (k h.1)
theorem e0_7 {A0 A1 A2 A3 A4 A5 A6:Prop}{C:Prop}(h:A0/\A1/\A2/\A3/\A4/\A5/\A6) (k:A0->A1->A2->A3->A4->A5->A6->C):C:=e0_6 h.2 (k h.1)
theorem e0_8 {A0 A1 A2 A3 A4 A5 A6 A7:Prop}{C:Prop}(h:A0/\A1/\A2/\A3/\A4/\A5/\A6/\A7) (k:A0->A1->A2->A3->A4->A5->A6->A7->C):C:=e0_7 h.2 (k h.1)
theorem e1_1 {t0:Sort _}{A0:t0->Prop}{C:Prop}(h:∃x0,A0 x0) (k:∀x0,A0 x0->C):C:=JX k
theorem e1_2 {t0:Sort _}{A0 A1:t0->Prop}{C:Prop}(h:∃x0,A0 x0/\A1 x0) (k:∀x0,A0 x0->A1 x0->C):C:=JX λx h=>e0_2 h (k x)
theorem e1_3 {t0:Sort _}{A0 A1 A2:t0->Prop}{C:Prop}(h:∃x0,A0 x0/\A1 x0/\A2 x0) (k:∀x0,A0 x0->A1 x0->A2 x0->C):C:=JX λx h=>e0_3 h (k x)
theorem e1_4 {t0:Sort _}{A0 A1 A2 A3:t0->Prop}{C:Prop}(h:∃x0,A0 x0/\A1 x0/\A2 x0/\A3 x0) (k:∀x0,A0 x0->A1 x0->A2 x0->A3 x0->C):C:=JX λx h=>e0_4 h (k x)
theorem e1_5 {t0:Sort _}{A0 A1 A2 A3 A4:t0->Prop}{C:Prop}(h:∃x0,A0 x0/\A1 x0/\A2 x0/\A3 x0/\A4 x0) (k:∀x0,A0 x0->A1 x0->A2 x0->A3 x0->A4 x0->C):C:=JX λx h=>e0_5 h (k x)
theorem e1_6 {t0:Sort _}{A0 A1 A2 A3 A4 A5:t0->Prop}{C:Prop}(h:∃x0,A0 x0/\A1 x0/\A2 x0/\A3 x0/\A4 x0/\A5 x0) (k:∀x0,A0 x0->A1 x0->A2 x0->A3 x0->A4 x0->A5 x0->C):C:=JX λx h=>e0_6 h (k x)
theorem e1_7 {t0:Sort _}{A0 A1 A2 A3 A4 A5 A6:t0->Prop}{C:Prop}(h:∃x0,A0 x0/\A1 x0/\A2 x0/\A3 x0/\A4 x0/\A5 x0/\A6 x0) (k:∀x0,A0 x0->A1 x0->A2 x0->A3 x0->A4 x0->A5 x0->A6 x0->C):C:=JX λx h=>e0_7 h (k x)
theorem e2_1 {t0:Sort _}{t1:Sort _}{A0:t0->t1->Prop}{C:Prop}(h:∃x0 x1,A0 x0 x1) (k:∀x0 x1,A0 x0 x1->C):C:=JX λx h=>e1_1 h (k x)
theorem e2_2 {t0:Sort _}{t1:Sort _}{A0 A1:t0->t1->Prop}{C:Prop}(h:∃x0 x1,A0 x0 x1/\A1 x0 x1) (k:∀x0 x1,A0 x0 x1->A1 x0 x1->C):C:=JX λx h=>e1_2 h (k x)
theorem e2_3 {t0:Sort _}{t1:Sort _}{A0 A1 A2:t0->t1->Prop}{C:Prop}(h:∃x0 x1,A0 x0 x1/\A1 x0 x1/\A2 x0 x1) (k:∀x0 x1,A0 x0 x1->A1 x0 x1->A2 x0 x1->C):C:=JX λx h=>e1_3 h (k x)
theorem e2_4 {t0:Sort _}{t1:Sort _}{A0 A1 A2 A3:t0->t1->Prop}{C:Prop}(h:∃x0 x1,A0 x0 x1/\A1 x0 x1/\A2 x0 x1/\A3 x0 x1) (k:∀x0 x1,A0 x0 x1->A1 x0 x1->A2 x0 x1->A3 x0 x1->C):C:=JX λx h=>e1_4 h (k x)
theorem e2_5 {t0:Sort _}{t1:Sort _}{A0 A1 A2 A3 A4:t0->t1->Prop}{C:Prop}(h:∃x0 x1,A0 x0 x1/\A1 x0 x1/\A2 x0 x1/\A3 x0 x1/\A4 x0 x1) (k:∀x0 x1,A0 x0 x1->A1 x0 x1->A2 x0 x1->A3 x0 x1->A4 x0 x1->C):C:=JX λx h=>e1_5 h (k x)
theorem e2_6 {t0:Sort _}{t1:Sort _}{A0 A1 A2 A3 A4 A5:t0->t1->Prop}{C:Prop}(h:∃x0 x1,A0 x0 x1/\A1 x0 x1/\A2 x0 x1/\A3 x0 x1/\A4 x0 x1/\A5 x0 x1) (k:∀x0 x1,A0 x0 x1->A1 x0 x1->A2 x0 x1->A3 x0 x1->A4 x0 x1->A5 x0 x1->C):C:=JX λx h=>e1_6 h (k x)
theorem e2_7 {t0:Sort _}{t1:Sort _}{A0 A1 A2 A3 A4 A5 A6:t0->t1->Prop}{C:Prop}(h:∃x0 x1,A0 x0 x1/\A1 x0 x1/\A2 x0 x1/\A3 x0 x1/\A4 x0 x1/\A5 x0 x1/\A6 x0 x1) (k:∀x0 x1,A0 x0 x1->A1 x0 x1->A2 x0 x1->A3 x0 x1->A4 x0 x1->A5 x0 x1->A6 x0 x1->C):C:=JX λx h=>e1_7 h (k x)
theorem e3_1 {t0:Sort _}{t1:Sort _}{t2:Sort _}{A0:t0->t1->t2->Prop}{C:Prop}(h:∃x0 x1 x2,A0 x0 x1 x2) (k:∀x0 x1 x2,A0 x0 x1 x2->C):C:=JX λx h=>e2_1 h (k x)
theorem e3_2 {t0:Sort _}{t1:Sort _}{t2:Sort _}{A0 A1:t0->t1->t2->Prop}{C:Prop}(h:∃x0 x1 x2,A0 x0 x1 x2/\A1 x0 x1 x2) (k:∀x0 x1 x2,A0 x0 x1 x2->A1 x0 x1 x2->C):C:=JX λx h=>e2_2 h (k x)
theorem e3_3 {t0:Sort _}{t1:Sort _}{t2:Sort _}{A0 A1 A2:t0->t1->t2->Prop}{C:Prop}(h:∃x0 x1 x2,A0 x0 x1 x2/\A1 x0 x1 x2/\A2 x0 x1 x2) (k:∀x0 x1 x2,A0 x0 x1 x2->A1 x0 x1 x2->A2 x0 x1 x2->C):C:=JX λx h=>e2_3 h (k x)
theorem e3_4 {t0:Sort _}{t1:Sort _}{t2:Sort _}{A0 A1 A2 A3:t0->t1->t2->Prop}{C:Prop}(h:∃x0 x1 x2,A0 x0 x1 x2/\A1 x0 x1 x2/\A2 x0 x1 x2/\A3 x0 x1 x2) (k:∀x0 x1 x2,A0 x0 x1 x2->A1 x0 x1 x2->A2 x0 x1 x2->A3 x0 x1 x2->C):C:=JX λx h=>e2_4 h (k x)
theorem e3_5 {t0:Sort _}{t1:Sort _}{t2:Sort _}{A0 A1 A2 A3 A4:t0->t1->t2->Prop}{C:Prop}(h:∃x0 x1 x2,A0 x0 x1 x2/\A1 x0 x1 x2/\A2 x0 x1 x2/\A3 x0 x1 x2/\A4 x0 x1 x2) (k:∀x0 x1 x2,A0 x0 x1 x2->A1 x0 x1 x2->A2 x0 x1 x2->A3 x0 x1 x2->A4 x0 x1 x2->C):C:=JX λx h=>e2_5 h (k x)
theorem e3_6 {t0:Sort _}{t1:Sort _}{t2:Sort _}{A0 A1 A2 A3 A4 A5:t0->t1->t2->Prop}{C:Prop}(h:∃x0 x1 x2,A0 x0 x1 x2/\A1 x0 x1 x2/\A2 x0 x1 x2/\A3 x0 x1 x2/\A4 x0 x1 x2/\A5 x0 x1 x2) (k:∀x0 x1 x2,A0 x0 x1 x2->A1 x0 x1 x2->A2 x0 x1 x2->A3 x0 x1 x2->A4 x0 x1 x2->A5 x0 x1 x2->C):C:=JX λx h=>e2_6 h (k x)
theorem e3_7 {t0:Sort _}{t1:Sort _}{t2:Sort _}{A0 A1 A2 A3 A4 A5 A6:t0->t1->t2->Prop}{C:Prop}(h:∃x0 x1 x2,A0 x0 x1 x2/\A1 x0 x1 x2/\A2 x0 x1 x2/\A3 x0 x1 x2/\A4 x0 x1 x2/\A5 x0 x1 x2/\A6 x0 x1 x2) (k:∀x0 x1 x2,A0 x0 x1 x2->A1 x0 x1 x2->A2 x0 x1 x2->A3 x0 x1 x2->A4 x0 x1 x2->A5 x0 x1 x2->A6 x0 x1 x2->C):C:=JX λx h=>e2_7 h (k x)
theorem e4_1 {t0:Sort _}{t1:Sort _}{t2:Sort _}{t3:Sort _}{A0:t0->t1->t2->t3->Prop}{C:Prop}(h:∃x0 x1 x2 x3,A0 x0 x1 x2 x3) (k:∀x0 x1 x2 x3,A0 x0 x1 x2 x3->C):C:=JX λx h=>e3_1 h (k x)
theorem e4_2 {t0:Sort _}{t1:Sort _}{t2:Sort _}{t3:Sort _}{A0 A1:t0->t1->t2->t3->Prop}{C:Prop}(h:∃x0 x1 x2 x3,A0 x0 x1 x2 x3/\A1 x0 x1 x2 x3) (k:∀x0 x1 x2 x3,A0 x0 x1 x2 x3->A1 x0 x1 x2 x3->C):C:=JX λx h=>e3_2 h (k x)
theorem e4_4 {t0:Sort _}{t1:Sort _}{t2:Sort _}{t3:Sort _}{A0 A1 A2 A3:t0->t1->t2->t3->Prop}{C:Prop}(h:∃x0 x1 x2 x3,A0 x0 x1 x2 x3/\A1 x0 x1 x2 x3/\A2 x0 x1 x2 x3/\A3 x0 x1 x2 x3) (k:∀x0 x1 x2 x3,A0 x0 x1 x2 x3->A1 x0 x1 x2 x3->A2 x0 x1 x2 x3->A3 x0 x1 x2 x3->C):C:=JX λx h=>e3_4 h (k x)
theorem e4_5 {t0:Sort _}{t1:Sort _}{t2:Sort _}{t3:Sort _}{A0 A1 A2 A3 A4:t0->t1->t2->t3->Prop}{C:Prop}(h:∃x0 x1 x2 x3,A0 x0 x1 x2 x3/\A1 x0 x1 x2 x3/\A2 x0 x1 x2 x3/\A3 x0 x1 x2 x3/\A4 x0 x1 x2 x3) (k:∀x0 x1 x2 x3,A0 x0 x1 x2 x3->A1 x0 x1 x2 x3->A2 x0 x1 x2 x3->A3 x0 x1 x2 x3->A4 x0 x1 x2 x3->C):C:=JX λx h=>e3_5 h (k x)
theorem e4_6 {t0:Sort _}{t1:Sort _}{t2:Sort _}{t3:Sort _}{A0 A1 A2 A3 A4 A5:t0->t1->t2->t3->Prop}{C:Prop}(h:∃x0 x1 x2 x3,A0 x0 x1 x2 x3/\A1 x0 x1 x2 x3/\A2 x0 x1 x2 x3/\A3 x0 x1 x2 x3/\A4 x0 x1 x2 x3/\A5 x0 x1 x2 x3) (k:∀x0 x1 x2 x3,A0 x0 x1 x2 x3->A1 x0 x1 x2 x3->A2 x0 x1 x2 x3->A3 x0 x1 x2 x3->A4 x0 x1 x2 x3->A5 x0 x1 x2 x3->C):C:=JX λx h=>e3_6 h (k x)
theorem e4_7 {t0:Sort _}{t1:Sort _}{t2:Sort _}{t3:Sort _}{A0 A1 A2 A3 A4 A5 A6:t0->t1->t2->t3->Prop}{C:Prop}(h:∃x0 x1 x2 x3,A0 x0 x1 x2 x3/\A1 x0 x1 x2 x3/\A2 x0 x1 x2 x3/\A3 x0 x1 x2 x3/\A4 x0 x1 x2 x3/\A5 x0 x1 x2 x3/\A6 x0 x1 x2 x3) (k:∀x0 x1 x2 x3,A0 x0 x1 x2 x3->A1 x0 x1 x2 x3->A2 x0 x1 x2 x3->A3 x0 x1 x2 x3->A4 x0 x1 x2 x3->A5 x0 x1 x2 x3->A6 x0 x1 x2 x3->C):C:=JX λx h=>e3_7 h (k x)
theorem e5_1 {t0:Sort _}{t1:Sort _}{t2:Sort _}{t3:Sort _}{t4:Sort _}{A0:t0->t1->t2->t3->t4->Prop}{C:Prop}(h:∃x0 x1 x2 x3 x4,A0 x0 x1 x2 x3 x4) (k:∀x0 x1 x2 x3 x4,A0 x0 x1 x2 x3 x4->C):C:=JX λx h=>e4_1 h (k x)
theorem e5_2 {t0:Sort _}{t1:Sort _}{t2:Sort _}{t3:Sort _}{t4:Sort _}{A0 A1:t0->t1->t2->t3->t4->Prop}{C:Prop}(h:∃x0 x1 x2 x3 x4,A0 x0 x1 x2 x3 x4/\A1 x0 x1 x2 x3 x4) (k:∀x0 x1 x2 x3 x4,A0 x0 x1 x2 x3 x4->A1 x0 x1 x2 x3 x4->C):C:=JX λx h=>e4_2 h (k x)
theorem e5_4 {t0:Sort _}{t1:Sort _}{t2:Sort _}{t3:Sort _}{t4:Sort _}{A0 A1 A2 A3:t0->t1->t2->t3->t4->Prop}{C:Prop}(h:∃x0 x1 x2 x3 x4,A0 x0 x1 x2 x3 x4/\A1 x0 x1 x2 x3 x4/\A2 x0 x1 x2 x3 x4/\A3 x0 x1 x2 x3 x4) (k:∀x0 x1 x2 x3 x4,A0 x0 x1 x2 x3 x4->A1 x0 x1 x2 x3 x4->A2 x0 x1 x2 x3 x4->A3 x0 x1 x2 x3 x4->C):C:=JX λx h=>e4_4 h (k x)
theorem e5_6 {t0:Sort _}{t1:Sort _}{t2:Sort _}{t3:Sort _}{t4:Sort _}{A0 A1 A2 A3 A4 A5:t0->t1->t2->t3->t4->Prop}{C:Prop}(h:∃x0 x1 x2 x3 x4,A0 x0 x1 x2 x3 x4/\A1 x0 x1 x2 x3 x4/\A2 x0 x1 x2 x3 x4/\A3 x0 x1 x2 x3 x4/\A4 x0 x1 x2 x3 x4/\A5 x0 x1 x2 x3 x4) (k:∀x0 x1 x2 x3 x4,A0 x0 x1 x2 x3 x4->A1 x0 x1 x2 x3 x4->A2 x0 x1 x2 x3 x4->A3 x0 x1 x2 x3 x4->A4 x0 x1 x2 x3 x4->A5 x0 x1 x2 x3 x4->C):C:=JX λx h=>e4_6 h (k x)
theorem e6_1 {t0:Sort _}{t1:Sort _}{t2:Sort _}{t3:Sort _}{t4:Sort _}{t5:Sort _}{A0:t0->t1->t2->t3->t4->t5->Prop}{C:Prop}(h:∃x0 x1 x2 x3 x4 x5,A0 x0 x1 x2 x3 x4 x5) (k:∀x0 x1 x2 x3 x4 x5,A0 x0 x1 x2 x3 x4 x5->C):C:=JX λx h=>e5_1 h (k x)
theorem e6_4 {t0:Sort _}{t1:Sort _}{t2:Sort _}{t3:Sort _}{t4:Sort _}{t5:Sort _}{A0 A1 A2 A3:t0->t1->t2->t3->t4->t5->Prop}{C:Prop}(h:∃x0 x1 x2 x3 x4 x5,A0 x0 x1 x2 x3 x4 x5/\A1 x0 x1 x2 x3 x4 x5/\A2 x0 x1 x2 x3 x4 x5/\A3 x0 x1 x2 x3 x4 x5) (k:∀x0 x1 x2 x3 x4 x5,A0 x0 x1 x2 x3 x4 x5->A1 x0 x1 x2 x3 x4 x5->A2 x0 x1 x2 x3 x4 x5->A3 x0 x1 x2 x3 x4 x5->C):C:=JX λx h=>e5_4 h (k x)
theorem e7_1 {t0:Sort _}{t1:Sort _}{t2:Sort _}{t3:Sort _}{t4:Sort _}{t5:Sort _}{t6:Sort _}{A0:t0->t1->t2->t3->t4->t5->t6->Prop}{C:Prop}(h:∃x0 x1 x2 x3 x4 x5 x6,A0 x0 x1 x2 x3 x4 x5 x6) (k:∀x0 x1 x2 x3 x4 x5 x6,A0 x0 x1 x2 x3 x4 x5 x6->C):C:=JX λx h=>e6_1 h (k x)
theorem e7_4 {t0:Sort _}{t1:Sort _}{t2:Sort _}{t3:Sort _}{t4:Sort _}{t5:Sort _}{t6:Sort _}{A0 A1 A2 A3:t0->t1->t2->t3->t4->t5->t6->Prop}{C:Prop}(h:∃x0 x1 x2 x3 x4 x5 x6,A0 x0 x1 x2 x3 x4 x5 x6/\A1 x0 x1 x2 x3 x4 x5 x6/\A2 x0 x1 x2 x3 x4 x5 x6/\A3 x0 x1 x2 x3 x4 x5 x6) (k:∀x0 x1 x2 x3 x4 x5 x6,A0 x0 x1 x2 x3 x4 x5 x6->A1 x0 x1 x2 x3 x4 x5 x6->A2 x0 x1 x2 x3 x4 x5 x6->A3 x0 x1 x2 x3 x4 x5 x6->C):C:=JX λx h=>e6_4 h (k x)
def aj {α:Type}(o:Option α) (k:α->Prop):Prop:=match o with
 |some a=>k a
 |none=>False
theorem ah {α:Type}{o:Option α}{k:α->Prop}(h:aj o k):∃a,o=some a/\k a:=by
 cases o with
 |none=>exact JX
 |some a=>exact⟨a,rfl,h⟩
def bj {α:Type}(o:Option α) (k:α->Prop) (d:Prop):Prop:=match o with
 |some a=>k a
 |none=>d
theorem aX {α:Type}{o:Option α}{k:α->Prop}{d:Prop}(h:bj o k d):aj o k∨d:=by
 cases o with
 |none=>exact .inr h
 |some a=>exact .inl h
theorem i_aa {A0:Prop}{A1:Prop}{A2:Prop}(h0:A0) (h1:A1) (h2:A2):A0/\A1/\A2:=⟨h0,h1,h2⟩
theorem ax {A0:Prop}{A1:Prop}{A2:Prop}{A3:Prop}(h0:A0) (h1:A1) (h2:A2) (h3:A3):A0/\A1/\A2/\A3:=⟨h0,h1,h2,h3⟩
theorem bv {A0:Prop}{A1:Prop}{A2:Prop}{A3:Prop}{A4:Prop}(h0:A0) (h1:A1) (h2:A2) (h3:A3) (h4:A4):A0/\A1/\A2/\A3/\A4:=⟨h0,h1,h2,h3,h4⟩
theorem dM {A0:Prop}{A1:Prop}{A2:Prop}{A3:Prop}{A4:Prop}{A5:Prop}(h0:A0) (h1:A1) (h2:A2) (h3:A3) (h4:A4) (h5:A5):A0/\A1/\A2/\A3/\A4/\A5:=⟨h0,h1,h2,h3,h4,h5⟩
theorem cM {A0:Prop}{A1:Prop}{A2:Prop}{A3:Prop}{A4:Prop}{A5:Prop}{A6:Prop}(h0:A0) (h1:A1) (h2:A2) (h3:A3) (h4:A4) (h5:A5) (h6:A6):A0/\A1/\A2/\A3/\A4/\A5/\A6:=⟨h0,h1,h2,h3,h4,h5,h6⟩
theorem dR {A0:Prop}{A1:Prop}{A2:Prop}{A3:Prop}{A4:Prop}{A5:Prop}{A6:Prop}{A7:Prop}(h0:A0) (h1:A1) (h2:A2) (h3:A3) (h4:A4) (h5:A5) (h6:A6) (h7:A7):A0/\A1/\A2/\A3/\A4/\A5/\A6/\A7:=⟨h0,h1,h2,h3,h4,h5,h6,h7⟩
theorem d7 {A0:Prop}{A1:Prop}{A2:Prop}{A3:Prop}{A4:Prop}{A5:Prop}{A6:Prop}{A7:Prop}{A8:Prop}(h0:A0) (h1:A1) (h2:A2) (h3:A3) (h4:A4) (h5:A5) (h6:A6) (h7:A7) (h8:A8):A0/\A1/\A2/\A3/\A4/\A5/\A6/\A7/\A8:=⟨h0,h1,h2,h3,h4,h5,h6,h7,h8⟩
theorem fh {A0:Prop}{A1:Prop}{A2:Prop}{A3:Prop}{A4:Prop}{A5:Prop}{A6:Prop}{A7:Prop}{A8:Prop}{A9:Prop}{A10:Prop}(h0:A0) (h1:A1) (h2:A2) (h3:A3) (h4:A4) (h5:A5) (h6:A6) (h7:A7) (h8:A8) (h9:A9) (h10:A10):A0/\A1/\A2/\A3/\A4/\A5/\A6/\A7/\A8/\A9/\A10:=⟨h0,h1,h2,h3,h4,h5,h6,h7,h8,h9,h10⟩
theorem eB {A0:Prop}{A1:Prop}{A2:Prop}{A3:Prop}{A4:Prop}{A5:Prop}{A6:Prop}{A7:Prop}{A8:Prop}{A9:Prop}{A10:Prop}{A11:Prop}(h0:A0) (h1:A1) (h2:A2) (h3:A3) (h4:A4) (h5:A5) (h6:A6) (h7:A7) (h8:A8) (h9:A9) (h10:A10) (h11:A11):A0/\A1/\A2/\A3/\A4/\A5/\A6/\A7/\A8/\A9/\A10/\A11:=⟨h0,h1,h2,h3,h4,h5,h6,h7,h8,h9,h10,h11⟩
theorem eK {A0:Prop}{A1:Prop}{A2:Prop}{A3:Prop}{A4:Prop}{A5:Prop}{A6:Prop}{A7:Prop}{A8:Prop}{A9:Prop}{A10:Prop}{A11:Prop}{A12:Prop}{A13:Prop}{A14:Prop}(h0:A0) (h1:A1) (h2:A2) (h3:A3) (h4:A4) (h5:A5) (h6:A6) (h7:A7) (h8:A8) (h9:A9) (h10:A10) (h11:A11) (h12:A12) (h13:A13) (h14:A14):A0/\A1/\A2/\A3/\A4/\A5/\A6/\A7/\A8/\A9/\A10/\A11/\A12/\A13/\A14:=⟨h0,h1,h2,h3,h4,h5,h6,h7,h8,h9,h10,h11,h12,h13,h14⟩
theorem cb {A0:Prop}{A1:Prop}{A2:Prop}{A3:Prop}{A4:Prop}{A5:Prop}{A6:Prop}{A7:Prop}{A8:Prop}{A9:Prop}{A10:Prop}{A11:Prop}{A12:Prop}{A13:Prop}{A14:Prop}{A15:Prop}{A16:Prop}(h0:A0) (h1:A1) (h2:A2) (h3:A3) (h4:A4) (h5:A5) (h6:A6) (h7:A7) (h8:A8) (h9:A9) (h10:A10) (h11:A11) (h12:A12) (h13:A13) (h14:A14) (h15:A15) (h16:A16):A0/\A1/\A2/\A3/\A4/\A5/\A6/\A7/\A8/\A9/\A10/\A11/\A12/\A13/\A14/\A15/\A16:=⟨h0,h1,h2,h3,h4,h5,h6,h7,h8,h9,h10,h11,h12,h13,h14,h15,h16⟩
theorem uE {t0:Sort _}{A0:Prop}{A1:t0->Prop}(h0:A0) (x0:t0) (h1:A1 x0):A0/\∃y0,A1 y0:=⟨h0,x0,h1⟩
theorem v4 {t0:Sort _}{A0:Prop}{A1:t0->Prop}{A2:t0->Prop}(h0:A0) (x0:t0) (h1:A1 x0) (h2:A2 x0):A0/\∃y0,A1 y0/\A2 y0:=⟨h0,x0,h1,h2⟩
theorem Dv {t0:Sort _}{t1:Sort _}{A0:Prop}{A1:t0->t1->Prop}(h0:A0) (x0:t0) (x1:t1) (h1:A1 x0 x1):A0/\∃y0,∃y1,A1 y0 y1:=⟨h0,x0,x1,h1⟩
theorem cD {t0:Sort _}{t1:Sort _}{A0:Prop}{A1:t0->t1->Prop}{A2:t0->t1->Prop}{A3:t0->t1->Prop}(h0:A0) (x0:t0) (x1:t1) (h1:A1 x0 x1) (h2:A2 x0 x1) (h3:A3 x0 x1):A0/\∃y0,∃y1,A1 y0 y1/\A2 y0 y1/\A3 y0 y1:=⟨h0,x0,x1,h1,h2,h3⟩
theorem bU {t0:Sort _}{t1:Sort _}{t2:Sort _}{A0:Prop}{A1:t0->t1->t2->Prop}{A2:t0->t1->t2->Prop}{A3:t0->t1->t2->Prop}{A4:t0->t1->t2->Prop}(h0:A0) (x0:t0) (x1:t1) (x2:t2) (h1:A1 x0 x1 x2) (h2:A2 x0 x1 x2) (h3:A3 x0 x1 x2) (h4:A4 x0 x1 x2):A0/\∃y0,∃y1,∃y2,A1 y0 y1 y2/\A2 y0 y1 y2/\A3 y0 y1 y2/\A4 y0 y1 y2:=⟨h0,x0,x1,x2,h1,h2,h3,h4⟩
theorem az {t0:Sort _}{A0:t0->Prop}{A1:t0->Prop}(x0:t0) (h0:A0 x0) (h1:A1 x0):∃y0,A0 y0/\A1 y0:=⟨x0,h0,h1⟩
theorem i_eaa {t0:Sort _}{A0:t0->Prop}{A1:t0->Prop}{A2:t0->Prop}(x0:t0) (h0:A0 x0) (h1:A1 x0) (h2:A2 x0):∃y0,A0 y0/\A1 y0/\A2 y0:=⟨x0,h0,h1,h2⟩
theorem ie {t0:Sort _}{A0:t0->Prop}{A1:t0->Prop}{A2:t0->Prop}{A3:t0->Prop}(x0:t0) (h0:A0 x0) (h1:A1 x0) (h2:A2 x0) (h3:A3 x0):∃y0,A0 y0/\A1 y0/\A2 y0/\A3 y0:=⟨x0,h0,h1,h2,h3⟩
theorem aO {t0:Sort _}{t1:Sort _}{A0:t0->Prop}{A1:t0->Prop}{A2:t0->t1->Prop}(x0:t0) (h0:A0 x0) (h1:A1 x0) (x1:t1) (h2:A2 x0 x1):∃y0,A0 y0/\A1 y0/\∃y1,A2 y0 y1:=⟨x0,h0,h1,x1,h2⟩
theorem sm {t0:Sort _}{t1:Sort _}{t2:Sort _}{A0:t0->Prop}{A1:t0->t1->t2->Prop}{A2:t0->t1->t2->Prop}{A3:t0->t1->t2->Prop}(x0:t0) (h0:A0 x0) (x1:t1) (x2:t2) (h1:A1 x0 x1 x2) (h2:A2 x0 x1 x2) (h3:A3 x0 x1 x2):∃y0,A0 y0/\∃y1,∃y2,A1 y0 y1 y2/\A2 y0 y1 y2/\A3 y0 y1 y2:=⟨x0,h0,x1,x2,h1,h2,h3⟩
theorem jE {t0:Sort _}{t1:Sort _}{t2:Sort _}{t3:Sort _}{A0:t0->Prop}{A1:t0->t1->t2->t3->Prop}{A2:t0->t1->t2->t3->Prop}{A3:t0->t1->t2->t3->Prop}(x0:t0) (h0:A0 x0) (x1:t1) (x2:t2) (x3:t3) (h1:A1 x0 x1 x2 x3) (h2:A2 x0 x1 x2 x3) (h3:A3 x0 x1 x2 x3):∃y0,A0 y0/\∃y1,∃y2,∃y3,A1 y0 y1 y2 y3/\A2 y0 y1 y2 y3/\A3 y0 y1 y2 y3:=⟨x0,h0,x1,x2,x3,h1,h2,h3⟩
theorem ic {t0:Sort _}{t1:Sort _}{A0:t0->t1->Prop}(x0:t0) (x1:t1) (h0:A0 x0 x1):∃y0,∃y1,A0 y0 y1:=⟨x0,x1,h0⟩
theorem eJ {t0:Sort _}{t1:Sort _}{A0:t0->t1->Prop}{A1:t0->t1->Prop}(x0:t0) (x1:t1) (h0:A0 x0 x1) (h1:A1 x0 x1):∃y0,∃y1,A0 y0 y1/\A1 y0 y1:=⟨x0,x1,h0,h1⟩
theorem l7 {t0:Sort _}{t1:Sort _}{A0:t0->t1->Prop}{A1:t0->t1->Prop}{A2:t0->t1->Prop}(x0:t0) (x1:t1) (h0:A0 x0 x1) (h1:A1 x0 x1) (h2:A2 x0 x1):∃y0,∃y1,A0 y0 y1/\A1 y0 y1/\A2 y0 y1:=⟨x0,x1,h0,h1,h2⟩
theorem dL {t0:Sort _}{t1:Sort _}{A0:t0->t1->Prop}{A1:t0->t1->Prop}{A2:t0->t1->Prop}{A3:t0->t1->Prop}(x0:t0) (x1:t1) (h0:A0 x0 x1) (h1:A1 x0 x1) (h2:A2 x0 x1) (h3:A3 x0 x1):∃y0,∃y1,A0 y0 y1/\A1 y0 y1/\A2 y0 y1/\A3 y0 y1:=⟨x0,x1,h0,h1,h2,h3⟩
theorem jD {t0:Sort _}{t1:Sort _}{A0:t0->t1->Prop}{A1:t0->t1->Prop}{A2:t0->t1->Prop}{A3:t0->t1->Prop}{A4:t0->t1->Prop}{A5:t0->t1->Prop}(x0:t0) (x1:t1) (h0:A0 x0 x1) (h1:A1 x0 x1) (h2:A2 x0 x1) (h3:A3 x0 x1) (h4:A4 x0 x1) (h5:A5 x0 x1):∃y0,∃y1,A0 y0 y1/\A1 y0 y1/\A2 y0 y1/\A3 y0 y1/\A4 y0 y1/\A5 y0 y1:=⟨x0,x1,h0,h1,h2,h3,h4,h5⟩
theorem j3 {t0:Sort _}{t1:Sort _}{A0:t0->t1->Prop}{A1:t0->t1->Prop}{A2:t0->t1->Prop}{A3:t0->t1->Prop}{A4:t0->t1->Prop}{A5:t0->t1->Prop}{A6:t0->t1->Prop}{A7:t0->t1->Prop}(x0:t0) (x1:t1) (h0:A0 x0 x1) (h1:A1 x0 x1) (h2:A2 x0 x1) (h3:A3 x0 x1) (h4:A4 x0 x1) (h5:A5 x0 x1) (h6:A6 x0 x1) (h7:A7 x0 x1):∃y0,∃y1,A0 y0 y1/\A1 y0 y1/\A2 y0 y1/\A3 y0 y1/\A4 y0 y1/\A5 y0 y1/\A6 y0 y1/\A7 y0 y1:=⟨x0,x1,h0,h1,h2,h3,h4,h5,h6,h7⟩
theorem Du {t0:Sort _}{t1:Sort _}{t2:Sort _}{A0:t0->t1->t2->Prop}(x0:t0) (x1:t1) (x2:t2) (h0:A0 x0 x1 x2):∃y0,∃y1,∃y2,A0 y0 y1 y2:=⟨x0,x1,x2,h0⟩
theorem pZ {t0:Sort _}{t1:Sort _}{t2:Sort _}{A0:t0->t1->t2->Prop}{A1:t0->t1->t2->Prop}(x0:t0) (x1:t1) (x2:t2) (h0:A0 x0 x1 x2) (h1:A1 x0 x1 x2):∃y0,∃y1,∃y2,A0 y0 y1 y2/\A1 y0 y1 y2:=⟨x0,x1,x2,h0,h1⟩
theorem cC {t0:Sort _}{t1:Sort _}{t2:Sort _}{A0:t0->t1->t2->Prop}{A1:t0->t1->t2->Prop}{A2:t0->t1->t2->Prop}(x0:t0) (x1:t1) (x2:t2) (h0:A0 x0 x1 x2) (h1:A1 x0 x1 x2) (h2:A2 x0 x1 x2):∃y0,∃y1,∃y2,A0 y0 y1 y2/\A1 y0 y1 y2/\A2 y0 y1 y2:=⟨x0,x1,x2,h0,h1,h2⟩
theorem f4 {t0:Sort _}{t1:Sort _}{t2:Sort _}{A0:t0->t1->t2->Prop}{A1:t0->t1->t2->Prop}{A2:t0->t1->t2->Prop}{A3:t0->t1->t2->Prop}(x0:t0) (x1:t1) (x2:t2) (h0:A0 x0 x1 x2) (h1:A1 x0 x1 x2) (h2:A2 x0 x1 x2) (h3:A3 x0 x1 x2):∃y0,∃y1,∃y2,A0 y0 y1 y2/\A1 y0 y1 y2/\A2 y0 y1 y2/\A3 y0 y1 y2:=⟨x0,x1,x2,h0,h1,h2,h3⟩
theorem gD {t0:Sort _}{t1:Sort _}{t2:Sort _}{A0:t0->t1->t2->Prop}{A1:t0->t1->t2->Prop}{A2:t0->t1->t2->Prop}{A3:t0->t1->t2->Prop}{A4:t0->t1->t2->Prop}(x0:t0) (x1:t1) (x2:t2) (h0:A0 x0 x1 x2) (h1:A1 x0 x1 x2) (h2:A2 x0 x1 x2) (h3:A3 x0 x1 x2) (h4:A4 x0 x1 x2):∃y0,∃y1,∃y2,A0 y0 y1 y2/\A1 y0 y1 y2/\A2 y0 y1 y2/\A3 y0 y1 y2/\A4 y0 y1 y2:=⟨x0,x1,x2,h0,h1,h2,h3,h4⟩
theorem dj {t0:Sort _}{t1:Sort _}{t2:Sort _}{A0:t0->t1->t2->Prop}{A1:t0->t1->t2->Prop}{A2:t0->t1->t2->Prop}{A3:t0->t1->t2->Prop}{A4:t0->t1->t2->Prop}{A5:t0->t1->t2->Prop}(x0:t0) (x1:t1) (x2:t2) (h0:A0 x0 x1 x2) (h1:A1 x0 x1 x2) (h2:A2 x0 x1 x2) (h3:A3 x0 x1 x2) (h4:A4 x0 x1 x2) (h5:A5 x0 x1 x2):∃y0,∃y1,∃y2,A0 y0 y1 y2/\A1 y0 y1 y2/\A2 y0 y1 y2/\A3 y0 y1 y2/\A4 y0 y1 y2/\A5 y0 y1 y2:=⟨x0,x1,x2,h0,h1,h2,h3,h4,h5⟩
theorem jC {t0:Sort _}{t1:Sort _}{t2:Sort _}{t3:Sort _}{A0:t0->t1->t2->t3->Prop}(x0:t0) (x1:t1) (x2:t2) (x3:t3) (h0:A0 x0 x1 x2 x3):∃y0,∃y1,∃y2,∃y3,A0 y0 y1 y2 y3:=⟨x0,x1,x2,x3,h0⟩
theorem bT {t0:Sort _}{t1:Sort _}{t2:Sort _}{t3:Sort _}{A0:t0->t1->t2->t3->Prop}{A1:t0->t1->t2->t3->Prop}{A2:t0->t1->t2->t3->Prop}{A3:t0->t1->t2->t3->Prop}(x0:t0) (x1:t1) (x2:t2) (x3:t3) (h0:A0 x0 x1 x2 x3) (h1:A1 x0 x1 x2 x3) (h2:A2 x0 x1 x2 x3) (h3:A3 x0 x1 x2 x3):∃y0,∃y1,∃y2,∃y3,A0 y0 y1 y2 y3/\A1 y0 y1 y2 y3/\A2 y0 y1 y2 y3/\A3 y0 y1 y2 y3:=⟨x0,x1,x2,x3,h0,h1,h2,h3⟩
theorem dw {t0:Sort _}{t1:Sort _}{t2:Sort _}{t3:Sort _}{A0:t0->t1->t2->t3->Prop}{A1:t0->t1->t2->t3->Prop}{A2:t0->t1->t2->t3->Prop}{A3:t0->t1->t2->t3->Prop}{A4:t0->t1->t2->t3->Prop}{A5:t0->t1->t2->t3->Prop}(x0:t0) (x1:t1) (x2:t2) (x3:t3) (h0:A0 x0 x1 x2 x3) (h1:A1 x0 x1 x2 x3) (h2:A2 x0 x1 x2 x3) (h3:A3 x0 x1 x2 x3) (h4:A4 x0 x1 x2 x3) (h5:A5 x0 x1 x2 x3):∃y0,∃y1,∃y2,∃y3,A0 y0 y1 y2 y3/\A1 y0 y1 y2 y3/\A2 y0 y1 y2 y3/\A3 y0 y1 y2 y3/\A4 y0 y1 y2 y3/\A5 y0 y1 y2 y3:=⟨x0,x1,x2,x3,h0,h1,h2,h3,h4,h5⟩
end Internal
end
section
open PySem PySem.W PyProof.Rows PySem.Calls
namespace Internal
open PySem.Sem (wp)
def holders:List J23:=["bytearray.__contains__","bytearray.__mod__","bytearray.__rmod__","_struct.pack_into.held","bytearray.find.held"]
def okC:Code->Bool
 | .builtin id _=> !(J0B id||J1k id)
 |_=>true
def okL (l:List (Code×Pos)):Bool:=l.all λx=>okC x.1
def Gd (Γ:Ctx):Prop:=okC Γ.code=true/\okL Γ.below=true
def ae {α:Type}(M:Model) (A:J7) (t:Sem α) (Q:α->J1->Prop) (E:Value->J1->Prop) (s:J1):Prop:=
 ∀Γ p,Γ.In A->Gd Γ->wp M Γ t (λa y s'=>Q a s') (λe y s'=>E e s') p s
def aC (M:Model) (A:J7) (c:Code) (R:J4y->J1->Prop) (s:J1):Prop:=
 ∀Γ p,Γ.code=c->Γ.Below A->okL Γ.below=true->PySem.wpCode M Γ R p s
section
variable {α β:Type}{M:Model}{A:Around}{E:Value->Shared->Prop}{s:Shared}
theorem av {t:Sem α}{Q:α->J1->Prop}(h:JF M A t Q E s):ae M A t Q E s:=λΓ p hΓ y=>h Γ p hΓ
theorem FT {c:Code}{R:J4y->J1->Prop}(h:JFj M A c R s):aC M A c R s:=λΓ p hc hΓ y=>h Γ p hc hΓ
theorem af {a:α}{Q:α->J1->Prop}(h:Q a s):ae M A (pure a) Q E s:=λy y y y=>h
theorem ag {t:Sem α}{Q Q':α->J1->Prop}{E':Value->J1->Prop}(h:ae M A t Q E s) (hQ:∀a s,Q a s->Q' a s) (hE:∀e s,E e s->E' e s):ae M A t Q' E' s:=
 λΓ p hΓ hG=>J1l M Γ t (λa y s=>hQ a s) (λe y s=>hE e s) p s (h Γ p hΓ hG)
def Bq (M:Model) (A:J7) (E:Value->J1->Prop) (Q:β->J1->Prop) (f:α->Sem β) (a:α):J1->Prop:=ae M A (f a) Q E
def Kq (M:Model) (A:J7) (E:Value->J1->Prop) (Q:β->J1->Prop) (f:α->Sem β) (a:α):J1->Prop:=JF M A (f a) Q E
theorem kq {f:α->Sem β}{a:α}{Q:β->J1->Prop}(h:JF M A (f a) Q E s):Kq M A E Q f a s:=h
theorem kB {m:Sem α}{f:α->Sem β}{Q:β->J1->Prop}(h:JF M A m (Kq M A E Q f) E s):JF M A (m>>=f) Q E s:=PySem.wpAny_bind h
theorem bq {f:α->Sem β}{a:α}{Q:β->J1->Prop}(h:ae M A (f a) Q E s):Bq M A E Q f a s:=h
theorem aa {m:Sem α}{f:α->Sem β}{Q:β->J1->Prop}(h:ae M A m (Bq M A E Q f) E s):ae M A (m>>=f) Q E s:=λΓ p hΓ hG=>by
 rw[J4H]
 exact J1l M Γ m (λa p' s' h'=>h' Γ p' hΓ hG) (λy y y h'=>h') p s (h Γ p hΓ hG)
theorem cj {m:Sem α}{k:Value->Sem Unit}{Q:α->J1->Prop}(h:ae M A m Q (λe s'=>ae M A (k e) (λy s''=>E e s'') E s') s):ae M A (JDu k) Q E s:=λΓ p hΓ hG=>by
 rw[Sem.wp_onRaise]
 exact J1l M Γ m (λy y y h'=>h') (λe p' s' h'=>h' Γ p' hΓ hG) p s (h Γ p hΓ hG)
theorem eA {m:Sem α}{Q:Except Value α->J1->Prop}(h:ae M A m (λa=>Q (.ok a)) (λe=>Q (.error e)) s):ae M A m.attempt Q E s:=λΓ p hΓ hG=>by
 rw[Sem.wp_attempt];exact h Γ p hΓ hG
theorem ai {vs:List Value}{m:Sem α}{Q:α->J1->Prop}(h:ae M A m Q E s):ae M A (holding vs m) Q E s:=λΓ p hΓ hG=>by
 rw[J6U];exact h Γ p hΓ hG
theorem dC {vs:List Value}{m:Sem Value}{Q:Value->J1->Prop}(h:ae M A m Q E s):ae M A (operate vs m) Q E s:=λΓ p hΓ hG=>by
 rw[J6T];exact h Γ p hΓ hG
theorem cJ {a b:List Value}{Q:Unit->J1->Prop}(h:Q () s):ae M A (JBX a b) Q E s:=λΓ p hΓ hG=>by
 rw[Sem.wp_release];exact h
theorem dU {tag:J23}{Q:Unit->J1->Prop}(h:Q () s):ae M A (rule tag) Q E s:=λy y y y=>h
theorem am {pos:Pos}{Q:Unit->J1->Prop}(h:Q () s):ae M A (standAt pos) Q E s:=λy y y y=>h
theorem du {Q:Unit->J1->Prop}(h:Q () s):ae M A point Q E s:=λy y y y=>h
theorem jY {t:Sem α}{a:α}{Q:α->J1->Prop}(e:t=pure a) (h:Q a s):ae M A t Q E s:=e▸af h
theorem jt {Q:Setting->J1->Prop}(h:Q ⟨M.prog,M.w.params⟩ s):ae M A ask Q E s:=λy y y y=>h
theorem q7 {Q:List (Code×Pos)->J1->Prop}(h:∀st:List (Code×Pos),okL st=true->(∀g,A.guards=some g->guardsOf st=g)->Q st s):ae M A stack Q E s:=λΓ p hΓ hG=>by
 show Q ((Γ.code,p)::Γ.below) s
 refine h _ ?_ λg hg=>by rw[guardsOf_cons];exact hΓ.2.2.2.1 g hg
 show (okC Γ.code&&okL Γ.below)=true
 rw[hG.1,hG.2];rfl
theorem wI0 {c:Prop}[Decidable c] {a b:Sem α}{Q:α->J1->Prop}(hc:decide c=false) (h:ae M A b Q E s):ae M A (if c then a else b) Q E s:=(JL (of_decide_eq_false hc)).symm▸h
theorem wI1 {c:Prop}[Decidable c] {a b:Sem α}{Q:α->J1->Prop}(hc:decide c=true) (h:ae M A a Q E s):ae M A (if c then a else b) Q E s:=(JC (J05 hc)).symm▸h
theorem wIB {c:Prop}{i:Decidable c}{a b:Sem α}{Q:α->J1->Prop}(h:ae M A a Q E s) (k:ae M A b Q E s):ae M A (if c then a else b) Q E s:=(Decidable.em c).elim (λq=>(JC q).symm▸h) λq=>(JL q).symm▸k
theorem ww {c:Prop}[Decidable c] {a b:Sem α}{Q:α->J1->Prop}(h:if c then ae M A a Q E s else ae M A b Q E s):ae M A (if c then a else b) Q E s:=by split<;>simp_all
theorem cX {c:Code}{R R':J4y->J1->Prop}(h:aC M A c R s) (hR:∀r s,R r s->R' r s):aC M A c R' s:=λΓ p hc hΓ hG=>wpCode_mono hR (h Γ p hc hΓ hG)
theorem enter_ok {Γ:Ctx}(hG:Gd Γ) {c:Code}{h:Option Value}{p:Pos}:okL (Γ.enter c h p).below=true:=by
 show (okC Γ.code&&okL Γ.below)=true
 rw[hG.1,hG.2];rfl
theorem oK {c:Code}{h:Option Value}{Q:Flow->J1->Prop}(hc:aC M (A.mark h) c (λr s'=>match r with | .ok f=>Q f s'| .error e=>E e s') s) (hnb:h≠some byPass:=by intro x;cases x):ae M A (run c h) Q E s:=
 λΓ p hΓ hG=>by rw[Sem.wp_run];exact hc _ p rfl (hΓ.enter c h p hnb) (enter_ok hG)
theorem lu {c:Code}{Q:Value->J1->Prop}(hc:aC M A c (λr s'=>match r with | .ok (.ret v)=>Q v s'| .ok _=>False| .error e=>E e s') s):ae M A (runValue c) Q E s:=
 λΓ p hΓ hG=>by rw[Sem.wp_runValue];exact hc _ p rfl (hΓ.enter c none p (by intro x;cases x)) (enter_ok hG)
theorem bB {f:Value}{pos:List Value}{kw:List (Str×Value)}{Q:Value->J1->Prop}(hc:aC M A (.call f ⟨pos,kw⟩) (λr s'=>match r with | .ok (.ret v)=>Q v s'| .ok _=>False| .error e=>E e s') s):ae M A (call f pos kw) Q E s:=lu hc
theorem aN {c:Code}{R:J4y->J1->Prop}
  (h:ae M (J5Y c) (M.den c) (λfin s'=>match fin with | .done f=>R (.ok f) s'| .again c'=>JCI=true/\aC M A c' R s') (λe s'=>R (.error e) s') s) (ok:Jl (okC c=true) Jn):aC M A c R s:=λΓ p hc hΓ hG=>by
 rw[wpCode_iff_wp,hc]
 refine J1l M Γ _ (λfin p' s' h'=> ?_) (λy y y h'=>h') p s (h Γ p (hc▸hΓ.in) ⟨hc▸ok,hG⟩)
 cases fin with
 |done f=>exact h'
 |again c'=>exact⟨h'.1,h'.2 (Γ.goto c') p' rfl (hΓ.goto c') hG⟩
theorem gV {c:Code}{R:J4y->J1->Prop}(hq:c.quiet=true) (I:Nat->J1->Prop)
  (turn:∀n s,I n s->ae M (J5Y c) (M.den c) (λfin s'=>match fin with
    | .done f=>R (.ok f) s'
    | .again c'=>(c'=c/\∃m,m<n/\I m s')∨(JCI=true/\aC M A c' R s')) (λe s'=>R (.error e) s') s)
  (n:Nat) (h:I n s) (ok:Jl (okC c=true) Jn):aC M A c R s:=by
 induction n using JEZ generalizing s with
 |ind n ih=>
  refine aN (ag (turn n s h) (λfin s' hf=> ?_) λy y h'=>h') ok
  clear ok turn
  cases fin with
  |done f=>exact hf
  |again c'=>
   rcases hf with⟨rfl,m,hm,hI⟩|hf
   ·exact⟨hq,ih m hm hI⟩
   ·exact hf
theorem qz {c:Code}{R:J4y->J1->Prop}(hq:c.quiet=true) (I:Nat->J1->Prop)
  (turn:∀n s,I n s->ae M (J5Y c) (M.den c) (λfin s'=>match fin with | .done f=>R (.ok f) s'| .again c'=>c'=c/\∃m,m<n/\I m s') (λe s'=>R (.error e) s') s)
  (n:Nat) (h:I n s) (ok:Jl (okC c=true) Jn):aC M A c R s:=by
 induction n using JEZ generalizing s with
 |ind n ih=>
  refine aN (ag (turn n s h) (λfin s' hf=> ?_) λy y h'=>h') ok
  clear ok turn
  cases fin with
  |done f=>exact hf
  |again c'=>obtain⟨rfl,m,hm,hI⟩:=hf;exact⟨hq,ih m hm hI⟩
end
section
variable {M:Model}{A:Around}{E:Value->Shared->Prop}{s:Shared}{env:Env}
theorem fV {Q:List Value->J1->Prop}(h:Q [] s):ae M A (J3T []) Q E s:=af h
theorem dJ {x:Sem Value}{rest:List (Bool×Sem Value)}{Q:List Value->J1->Prop}(h:ae M A x (λv s1a=>ae M A (J3T rest) (λvs s2a=>Q (v::vs) s2a) E s1a) E s):ae M A (J3T ((false,x)::rest)) Q E s:=by
 rw[J3T]
 refine aa (ag h (λv s1a h1a=> ?_) λy y x=>x)
 simp only [JCW,JCC]
 exact aa (af (aa (ai (ag h1a (λvs s2a h2a=>af h2a) λy y x=>x))))
theorem dI {pos:Pos}{Q:List Value->J1->Prop}(h:Q [] s):ae M A (J3T (J00 pos (Je [] env))) Q E s:=fV h
theorem eZ {e:Expr}{rest:List Expr}{pos:Pos}{Q:List Value->J1->Prop}(h:ae M A (eval e env) (λv s1a=>ae M A (J3T (J00 pos (Je rest env))) (λvs s2a=>Q (v::vs) s2a) E s1a) E s)
  (he:Jl (Je (e::rest) env=(false,eval e env)::Je rest env) Jn):ae M A (J3T (J00 pos (Je (e::rest) env))) Q E s:=by
 rw[he];exact dJ h
theorem cW {f:Value}{x:Sem Value}{rest:List (Bool×Sem Value)}{Q:Args->J1->Prop}(h:ae M A (J3T ((false,x)::rest)) (λvs s'=>Q ⟨vs,[]⟩ s') E s):ae M A (J6H f true ((false,x)::rest) []) Q E s:=by
 unfold J6H
 show ae M A (J3T ((false,x)::rest)>>=_) Q E s
 refine aa (ag h (λvs s' h'=> ?_) λy y x=>x)
 refine ai ?_
 exact aa (af (aa (af (af h'))))
theorem tE {α:Type}{vs:List Value}{m:Sem α}{Q:α->J1->Prop}(h:ae M A m Q E s):ae M A (m.keep vs) Q E s:=λΓ p hΓ hG=>by rw[Sem.wp_keep];exact h Γ p hΓ hG
theorem dA {P:Heap->Prop}{pos:Pos}{f:Value}{first:List Value}{Q:Value->J1->Prop}{args:List (Bool×Sem Value)}{keywords:List (Option Str×Sem Value)}(hplain:(JFe (·.1)||keywords.any (·.1.isNone))=false)
  (hk:∀h,P h->∃k,(k=Keeper.frame∨k=Keeper.machine∨k=Keeper.boundFrame)/\Looks M h (keeperOf f) k)
  (h:ae M A (J6H f true args keywords) (λa s1a=>P J46/\ae M A (call f (first++JFg) a.kw) Q E s1a) E s):ae M A (J2C pos f first args keywords) Q E s:=by
 unfold J2C
 refine aa (ai (ag h (λa s1a h1a=>aa (am ?_)) λy y x=>x))
 refine e1_2 (hk _ h1a.1) λk hk' L=> ?_
 refine (hplain).symm▸?_
 refine aa (av (L.here ?_))
 have tail:∀{t:Sem Value},ae M A t Q E s1a->ae M A (t>>=λr=>holding [r] point>>=λy=>pure r) Q E s1a:=
  λht=>aa (ag ht (λr s2a hr=>aa (ai (du (af hr)))) λy y x=>x)
 have marked (mk:Value):ae M A (callMarked mk f (first++JFg) a.kw) Q E s1a:=by
  unfold callMarked
  exact tE h1a.2
 clear L
 rcases hk' with rfl|rfl|rfl<;>dsimp only<;>first|exact tail h1a.2|exact wIB (tail h1a.2) (tail (marked _))
theorem eR {pos:Pos}{id:J23}{first:List Value}{args:List (Bool×Sem Value)}{Q:Value->J1->Prop}(hplain:JFe (·.1)=false)
  (h:ae M A (J6H (.builtin id) true args []) (λa s1a=>ae M A (call (.builtin id) (first++JFg) a.kw) Q E s1a) E s):ae M A (J2C pos (.builtin id) first args []) Q E s:=by
 unfold J2C
 refine aa (ai (ag h (λa s1a h1a=>aa (am ?_)) λy y x=>x))
 rw[hplain,JGW]
 refine aa (af ?_)
 exact aa (ag h1a (λr s2a hr=>aa (ai (du (af hr)))) λy y x=>x)
theorem om {pos:Pos}{T:J23}{first:List Value}{args:List (Bool×Sem Value)}{Q:Value->J1->Prop}(hplain:JFe (·.1)=false)
  (h:ae M A (J6H (.type T) true args []) (λa s1a=>ae M A (call (.type T) (first++JFg) a.kw) Q E s1a) E s):ae M A (J2C pos (.type T) first args []) Q E s:=by
 unfold J2C
 refine aa (ai (ag h (λa s1a h1a=>aa (am ?_)) λy y x=>x))
 rw[hplain,JGW]
 refine aa (af ?_)
 exact aa (ag h1a (λr s2a hr=>aa (ai (du (af hr)))) λy y x=>x)
theorem bR {id:Str}{p pos:Pos}{args:List Expr}{Q:Value->J1->Prop}(h:ae M A (eval (.Name id p) env) (λf s1a=>ae M A (J2C pos f [] (J00 pos (Je args env)) []) Q E s1a) E s):ae M A (eval (.Call (.Name id p) args [] pos) env) Q E s:=by
 show ae M A (do J2C pos (<- eval (.Name id p) env) [] (J00 pos (Je args env)) (J4Y pos (J2V [] env))) Q E s
 exact aa h
theorem dq {name:Str}{o:Expr}{apos pos:Pos}{args:List Expr}{kws:List Keyword}{pl:Sem Bool}{Q:Value->J1->Prop}
  (h:ae M A (eval o env) (λov s1a=>ae M A (getMethod ov name pl) (λfx s2a=>ae M A (J2C pos fx.1 fx.2 (J00 pos (Je args env)) (J4Y pos (J2V kws env))) Q E s2a) E s1a) E s)
  (he:Jl (eval (.Call (.Attribute o name apos) args kws pos) env=(do
   let ov <- eval o env
   standAt J8g
   let (f,first) <- holding [ov] (getMethod ov name pl)
   J2C pos f first (J00 pos (Je args env)) (J4Y pos (J2V kws env)))) Jn):
  ae M A (eval (.Call (.Attribute o name apos) args kws pos) env) Q E s:=by
 rw[he]
 refine aa (ag h (λov s1a h1a=>aa (am (aa (ai (ag h1a (λfx s2a h2a=> ?_) λy y x=>x))))) λy y x=>x)
 exact h2a
theorem fQ {elts:List Expr}{k:Nat}{pos:Pos}{Q:Value->J1->Prop}(h:ae M A (J3T (J00 pos (Je elts env))) (λvs s1a=>J5l<=J1g/\Q (.ref JCb) { s1a with heap:=JFz { cls:=.type "tuple",data:=.seq vs.toArray } }) E s):ae M A (eval (.Tuple elts k pos) env) Q E s:=by
 rw[arm_eval_Tuple]
 exact aa (am (aa (ag h (λvs s1a h1a=>av (J1K h1a.2 (by show JDZ<=J1g;rw[J48];exact h1a.1))) λy y x=>x)))
theorem lw {elts:List Expr}{pos:Pos}{Q:Value->J1->Prop}(h:ae M A (J3T (J00 pos (Je elts env))) (λvs s1a=>J5l<=J1g/\Q (.ref JCb) { s1a with heap:=JFz { cls:=.type "list",data:=.seq vs.toArray } }) E s):ae M A (eval (.List elts pos) env) Q E s:=by
 rw[arm_eval_List]
 exact aa (am (aa (ag h (λvs s1a h1a=>av (J1K h1a.2 (by show JDZ<=J1g;rw[J48];exact h1a.1))) λy y x=>x)))
theorem jZ {lower upper step:Option Expr}{p:Pos}{Q:Value->J1->Prop}
  (h:ae M A (JCG lower env) (λl s1a=>ae M A (JCG upper env) (λu s2a=>ae M A (JCG step env) (λst s3a=>Q (.ref s3a.heap.objs.size) { s3a with heap:=s3a.heap.push { cls:=.type "slice",data:=.fields #[l,u,st] } }) E s2a) E s1a) E s):
  ae M A (eval (.Slice lower upper step p) env) Q E s:=by
 rw[arm_eval_Slice]
 refine aa (ag h (λl s1a h1a=>aa (ai (ag h1a (λu s2a h2a=>aa (ai (ag h2a (λst s3a h3a=> ?_) λy y x=>x))) λy y x=>x))) λy y x=>x)
 exact av (J1K h3a)
theorem ee {value slice:Expr}{pos:Pos}{Q:Value->J1->Prop}(h:ae M A (eval value env) (λo s1a=>ae M A (eval slice env) (λi s2a=>ae M A (J3i value slice o i) Q E s2a) E s1a) E s):ae M A (eval (.Subscript value slice pos) env) Q E s:=by
 rw[eval_Subscript]
 exact aa (ag h (λo s1a h1a=>aa (ai (ag h1a (λi s2a h2a=>aa (am h2a)) λy y x=>x))) λy y x=>x)
theorem rc {l r:Expr}{op:JFk}{pos:Pos}{Q:Value->J1->Prop}(h:ae M A (eval l env) (λa s1a=>ae M A (eval r env) (λb s2a=>ae M A (J3Q op a b) Q E s2a) E s1a) E s):ae M A (eval (.BinOp l op r pos) env) Q E s:=λΓ p hΓ hG=>by
 simp only [eval_BinOp,J4H,J6U,J3o,J6T]
 exact J1l M Γ _ (λa p1a s1a h1a=>J1l M Γ _ (λb y s2a h2a=>h2a Γ _ hΓ hG) (λy y y h'=>h') _ _ (h1a Γ p1a hΓ hG)) (λy y y h'=>h') _ _ (h Γ p hΓ hG)
theorem lx {l r:Expr}{op:CmpOp}{pos:Pos}{Q:Value->J1->Prop}(h:ae M A (eval l env) (λa s1a=>ae M A (eval r env) (λb s2a=>ae M A (compareOp op a b) Q E s2a) E s1a) E s) (hm:Jl (J76 op r=false) Jn):
  ae M A (eval (.Compare l [op] [r] pos) env) Q E s:=λΓ p hΓ hG=>by
 simp only [eval_Compare1,J9t hm,J4H,J6U,J3o,J6T]
 exact J1l M Γ _ (λa p1a s1a h1a=>J1l M Γ _ (λb y s2a h2a=>h2a Γ _ hΓ hG) (λy y y h'=>h') _ _ (h1a Γ p1a hΓ hG)) (λy y y h'=>h') _ _ (h Γ p hΓ hG)
theorem fF {l r:Expr}{op:CmpOp}{pos:Pos}{whole:Sem Value}{Q:Bool->J1->Prop}(h:ae M A (eval l env) (λa s1a=>ae M A (eval r env) (λb s2a=>ae M A (compareOp op a b) (λc s3a=>ae M A (truthy c) Q E s3a) E s2a) E s1a) E s)
  (hm:Jl (J76 op r=false) Jn):ae M A (J0N (.Compare l [op] [r] pos) env whole) Q E s:=λΓ p hΓ hG=>by
 simp only [isTrue_Compare1,J9t hm,J4H,J6U,J3o,J6T]
 exact J1l M Γ _ (λa p1a s1a h1a=>J1l M Γ _ (λb y s2a h2a=>J1l M Γ _ (λc p3a s3a h3a=>h3a Γ p3a hΓ hG) (λy y y h'=>h') _ _ (h2a Γ _ hΓ hG)) (λy y y h'=>h') _ _ (h1a Γ p1a hΓ hG)) (λy y y h'=>h') _ _ (h Γ p hΓ hG)
theorem uB {x:Expr}{pos:Pos}{whole:Sem Value}{Q:Bool->J1->Prop}(h:ae M A (J0N x env (eval x env)) (λc s'=>Q (!c) s') E s):ae M A (J0N (.UnaryOp .Not x pos) env whole) Q E s:=by
 show ae M A (do return !(<- J0N x env (eval x env))) Q E s
 exact aa (ag h (λc s' h'=>af h') λy y x=>x)
theorem l6 {pos:Pos}{whole:Sem Value}{Q:Bool->J1->Prop}(h:Q true s):ae M A (J0N (.BoolOp .And [] pos) env whole) Q E s:=af (a:=true) h
theorem nS {pos:Pos}{whole:Sem Value}{Q:Bool->J1->Prop}(h:Q false s):ae M A (J0N (.BoolOp .Or [] pos) env whole) Q E s:=af (a:=false) h
theorem uC {x:Expr}{rest:List Expr}{pos:Pos}{whole:Sem Value}{Q:Bool->J1->Prop}(h:ae M A (J0N x env (eval x env)) (λc s'=>if c then ae M A (J0N (.BoolOp .And rest pos) env whole) Q E s' else Q false s') E s):
  ae M A (J0N (.BoolOp .And (x::rest) pos) env whole) Q E s:=by
 show ae M A (do
  match BoolOp.And,<- J0N x env (eval x env) with
  | .And,false=>pure false
  | .Or,true=>pure true
  |_,_=>allTrue .And rest env) Q E s
 refine aa (ag h (λc s' h'=> ?_) λy y x=>x)
 cases c with
 |false=>exact af h'
 |true=>exact h'
theorem xA {x:Expr}{rest:List Expr}{pos:Pos}{whole:Sem Value}{Q:Bool->J1->Prop}(h:ae M A (J0N x env (eval x env)) (λc s'=>if c then Q true s' else ae M A (J0N (.BoolOp .Or rest pos) env whole) Q E s') E s):
  ae M A (J0N (.BoolOp .Or (x::rest) pos) env whole) Q E s:=by
 show ae M A (do
  match BoolOp.Or,<- J0N x env (eval x env) with
  | .And,false=>pure false
  | .Or,true=>pure true
  |_,_=>allTrue .Or rest env) Q E s
 refine aa (ag h (λc s' h'=> ?_) λy y x=>x)
 cases c with
 |false=>exact h'
 |true=>exact af h'
theorem pU {e:Expr}{whole:Sem Value}{Q:Bool->J1->Prop}(h:ae M A whole (λv s1a=>ae M A (truthy v) Q E s1a) E s)
  (he:Jl (J0N e env whole=(do let v <- whole;standAt e.pos;holding [v] (truthy v))) Jn):ae M A (J0N e env whole) Q E s:=by
 rw[he]
 exact aa (ag h (λv s1a h1a=>aa (am (ai h1a))) λy y x=>x)
theorem pV {l r1a r2a:Expr}{op1 op2:CmpOp}{ops:List CmpOp}{rs:List Expr}{pos:Pos}{whole:Sem Value}{Q:Bool->J1->Prop}
  (h:ae M A (eval l env) (λa s1a=>ae M A (JDc pos a (op1::op2::ops) (eval r1a env::eval r2a env::J9x rs env)) Q E s1a) E s)
  (hm:Jl (lastMarks (op1::op2::ops) (r1a::r2a::rs)=false) Jn):ae M A (J0N (.Compare l (op1::op2::ops) (r1a::r2a::rs) pos) env whole) Q E s:=by
 show ae M A (do JDc pos (<- eval l env) (op1::op2::ops) (markedEach (op1::op2::ops) (r1a::r2a::rs) (J9x (r1a::r2a::rs) env))) Q E s
 rw[markedEach_of_false _ _ _ hm]
 exact aa h
theorem bx {b:Bool}{Q:Bool->J1->Prop}(h:Q b s):ae M A (truthy (.bool b)) Q E s:=λy y y y=>h
theorem ra {test body orelse:Expr}{pos:Pos}{Q:Value->J1->Prop}(h:ae M A (J0N test env (eval test env)) (λc s2a=>if c then ae M A (eval body env) Q E s2a else ae M A (eval orelse env) Q E s2a) E s):ae M A (eval (.IfExp test body orelse pos) env) Q E s:=by
 rw[eval_IfExp]
 refine aa (ag h (λc s2a h2a=> ?_) λy y x=>x)
 cases c<;>exact h2a
theorem n4 {Q:List (Value×Value)->J1->Prop}(h:Q [] s):ae M A (J5w []) Q E s:=af h
theorem mq {k v:Sem Value}{rest:List (Sem Value×Sem Value)}{Q:List (Value×Value)->J1->Prop}(h:ae M A k (λkv s1a=>ae M A v (λvv s2a=>ae M A (J5w rest) (λvs s3a=>Q ((kv,vv)::vs) s3a) E s2a) E s1a) E s):ae M A (J5w ((k,v)::rest)) Q E s:=by
 rw[J5w]
 refine aa (ag h (λkv s1a h1a=> ?_) λy y e=>e)
 refine aa (ai (ag h1a (λvv s2a h2a=> ?_) λy y e=>e))
 exact aa (ai (ag h2a (λvs s3a h3a=>af h3a) λy y e=>e))
theorem dD {Q:Flow->J1->Prop}(h:Q .next s):ae M A (execs [] env) Q E s:=λy y y y=>h
theorem bQ {st:Stmt}{rest:List Stmt}{Q:Flow->J1->Prop}(h:ae M A (exec st env) (λf s'=>match f with | .next=>ae M A (execs rest env) Q E s'|f=>Q f s') E s):ae M A (execs (st::rest) env) Q E s:=λΓ p hΓ hG=>by
 rw[execs_cons,J4H]
 refine J1l M Γ _ (λf p' s' h'=> ?_) (λy y y h'=>h') _ _ (h Γ p hΓ hG)
 cases f<;>first|exact h' Γ p' hΓ hG|exact h'
theorem rb {test:Expr}{body orelse:List Stmt}{pos:Pos}{Q:Flow->J1->Prop}(h:ae M A (J0N test env (eval test env)) (λb s2a=>if b then ae M A (execs body env) Q E s2a else ae M A (execs orelse env) Q E s2a) E s):
  ae M A (exec (.If test body orelse pos) env) Q E s:=λΓ p hΓ hG=>by
 simp only [exec_If,J4H,J3o]
 refine J1l M Γ _ (λb p2a s2a h2a=> ?_) (λy y y h'=>h') _ _ (h Γ _ hΓ hG)
 cases b<;>exact h2a Γ p2a hΓ hG
theorem iA {e:Expr}{pos:Pos}{Q:Flow->J1->Prop}(h:ae M A (eval e env) (λv=>Q (.ret v)) E s):ae M A (exec (.Return (some e) pos) env) Q E s:=λΓ p hΓ hG=>by
 simp only [exec_Return_some,J4H,J3o,Sem.wp_pure'];exact h Γ _ hΓ hG
theorem fP {x:Str}{v:Value}{Q:Unit->J1->Prop}(h:ae M A (JDf env x v) Q E s):ae M A (J8A env x v) Q E s:=λΓ p hΓ hG=>by rw[Sem.wp_bindName];exact h Γ p hΓ hG
theorem kj {x:Str}{pos:Pos}{v:Value}{Q:Unit->J1->Prop}(h:ae M A (JDf env x v) Q E s):ae M A (J5d (.Name x pos) env v) Q E s:=by
 rw[PySem.assign_Name];exact aa (am (fP h))
theorem js {elts:List Expr}{k:Nat}{tpos pos:Pos}{value:Expr}{Q:Flow->J1->Prop}(h:ae M A (eval value env) (λv s1a=>ae M A (J5d (.Tuple elts k tpos) env v) (λy=>Q .next) E s1a) E s)
  (hs:Jl (J33 [.Tuple elts k tpos] value J6E env=pure false) Jn) (hw:Jl (J20 [.Tuple elts k tpos] value env=pure none) Jn):ae M A (exec (.Assign [.Tuple elts k tpos] value pos) env) Q E s:=by
 rw[JBd]
 refine aa (am ?_)
 rw[hs]
 refine aa (af ?_)
 refine wI0 rfl ?_
 refine aa (ag h (λv s1a h1a=> ?_) λy y x=>x)
 rw[hw]
 refine aa (af ?_)
 show ae M A (do assignAll v [J5d (.Tuple elts k tpos) env];pure .next) Q E s1a
 exact aa (ag h1a (λy y x=>af x) λy y x=>x)
theorem gu {elts:List Expr}{k:Nat}{tpos pos:Pos}{value:Expr}{names:List Str}{Q:Flow->J1->Prop}(h:ae M A (eval value env) (λv s1a=>ae M A (unpackItems v J5s none) (λitems s2a=>ae M A (J5Q (J7Z λn=>J8A env n) JFN) (λy=>Q .next) E s2a) E s1a) E s)
  (hs:Jl (J33 [.Tuple elts k tpos] value J6E env=pure false) Jn) (hw:Jl (J20 [.Tuple elts k tpos] value env=pure (some names)) Jn):ae M A (exec (.Assign [.Tuple elts k tpos] value pos) env) Q E s:=by
 rw[JBd]
 refine aa (am ?_)
 rw[hs]
 refine aa (af ?_)
 refine wI0 rfl ?_
 refine aa (ag h (λv s1a h1a=> ?_) λy y x=>x)
 rw[hw]
 refine aa (af ?_)
 show ae M A (do
  rule "assign.swapped-stores"
  let items <- unpackItems v J5s none
  J5Q (J7Z λn=>J8A env n) JFN
  pure .next) Q E s1a
 exact aa (dU (aa (ag h1a (λitems s2a h2a=>aa (ag h2a (λy y x=>af x) λy y x=>x)) λy y x=>x)))
def bg (M:Model) (A:J7) (env:Env) (E:Value->J1->Prop):Value->J1->Prop:=λx s'=>ae M A (J5r x env) (λy s''=>E x s'') E s'
def ed (M:Model) (A:J7) (env:Env) (E:Value->J1->Prop):Value->J1->Prop:=λx s'=>ae M A (do
  if (<- field x 1)== .none then JBV "frame.own-activation:exception-without-traceback"
  JDk x J3M) (λy s''=>E x s'') E s'
theorem fE {x:Value}{Q:Unit->J1->Prop}(h:Q () s):ae M A (J5m x) Q E s:=av (PySem.wpAny_theTreesLotGoes h)
theorem ek {α:Type}{m:Sem α}{Q:α->J1->Prop}(h:ae M A m Q (bg M A env E) s):ae M A (JDu λx=>do J5r x env;J5m x) Q E s:=
 cj (ag h (λy y q=>q) λy y hx=>aa (ag hx (λy y e=>fE e) λy y e=>e))
theorem nv {α:Type}{m:Sem α}{pos:Pos}{Q:α->J1->Prop}(h:ae M A m Q (bg M A env E) s):ae M A (JDu λx=>do J5r x env;standAt pos) Q E s:=
 cj (ag h (λy y q=>q) λy y hx=>aa (ag hx (λy y e=>am e) λy y e=>e))
theorem iz {c:Code}{h:Option Value}{Q:Flow->J1->Prop}(hc:aC M (A.mark h) c (λr s'=>match r with | .ok f=>Q f s'| .error e=>ed M A env E e s') s) (hnb:h≠some byPass:=by intro x;cases x):ae M A (runOwn c env h) Q E s:=by
 unfold runOwn
 exact cj (oK hc hnb)
theorem q8 {test:Expr}{body orelse:List Stmt}{pos:Pos}{Q:Flow->J1->Prop}(h:aC M A (.whileLoop test body orelse env) (λr s'=>match r with | .ok f=>Q f s'| .error e=>ed M A env E e s') s):ae M A (exec (.While test body orelse pos) env) Q E s:=by
 rw[exec_While];exact aa (am (iz h))
theorem wx {target iter:Expr}{body orelse:List Stmt}{pos:Pos}{Q:Flow->J1->Prop}
  (h:ae M A (eval iter env) (λx s1a=>ae M A (J6P x) (λit s2a=>aC M A (.forLoop target it body orelse env) (λr s'=>match r with | .ok f=>Q f s'| .error e=>ed M A env E e s') s2a) E s1a) E s)
  (hs:Jl (∀x,J2K iter env x=pure x) Jn):ae M A (exec (.For target iter body orelse pos) env) Q E s:=by
 rw[exec_For]
 exact aa (am (aa (ag h (λx s1a h1a=>aa (jY (hs x) (aa (am (aa (ai (ag h1a (λit s2a h2a=>iz h2a) λy y h'=>h'))))))) λy y h'=>h')))
theorem gt {prog:J3Z}{w:World}{value:Expr}{attr:Str}{pos:Pos}{Q:Value->J1->Prop}
  (h:ae (model prog w) A (eval value env) (λo s1a=>ae (model prog w) A (getAttr o attr true) Q E s1a) E s)
  (he:Jl (eval (.Attribute value attr pos) env=(do
   let o <- eval value env
   standAt pos.atName
   let r <- holding [o] (getAttr o attr true)
   J6R value o r
   pure r)) Jn):ae (model prog w) A (eval (.Attribute value attr pos) env) Q E s:=by
 rw[he]
 refine aa (ag h (λo s1a h1a=>aa (am (aa (ai (ag h1a (λr s2a h2a=> ?_) λy y x=>x))))) λy y x=>x)
 exact aa (av (JBE (af h2a)))
end
section
variable {prog:Program}{w:World}{A:Around}{E:Value->Shared->Prop}{R:Result->Shared->Prop}{s:Shared}{env:Env}
theorem oi {stmts:List Stmt}(h:ae (model prog w) A (execs stmts env) (λf s'=>R (.ok f) s') (bg (model prog w) A env λe s'=>R (.error e) s') s):aC (model prog w) A (.block stmts env) R s:=by
 refine aN ?_
 show ae _ _ (do return Fin.done (<- (execs stmts env).onRaise (λx=>do J5r x env;J5m x))) _ _ s
 exact aa (ek (ag h (λf s' h'=>af h') λy y h'=>h'))
theorem i0 {test:Expr}{body orelse:List Stmt}(I:Nat->J1->Prop)
  (turn:∀n s,I n s->ae (model prog w) A (J0N test env (eval test env)) (λb s2a=>
    if b then ae (model prog w) A (execs body env) (λf s3a=>match f with
      | .next| .cont=>∃m,m<n/\I m s3a
      | .brk=>R (.ok .next) s3a
      | .ret v=>R (.ok (.ret v)) s3a) (bg (model prog w) A env λe s'=>R (.error e) s') s2a
    else ae (model prog w) A (execs orelse env) (λf s3a=>R (.ok f) s3a) (bg (model prog w) A env λe s'=>R (.error e) s') s2a)
    (bg (model prog w) A env λe s'=>R (.error e) s') s)
  (n:Nat) (h:I n s):aC (model prog w) A (.whileLoop test body orelse env) R s:=by
 refine gV rfl I (λn s hI=> ?_) n h
 refine ek ?_
 refine aa (ag (turn n s hI) (λb s2a h2a=> ?_) λy y h'=>h')
 cases b with
 |false=>
  exact aa (ag h2a (λf s3a h3a=>af h3a) λy y h'=>h')
 |true=>
  refine aa (ag h2a (λf s3a h3a=> ?_) λy y h'=>h')
  cases f with
  |next=>exact af (.inl ⟨rfl,h3a⟩)
  |cont=>exact af (.inl ⟨rfl,h3a⟩)
  |brk=>exact af h3a
  |ret v=>exact af h3a
theorem gN {target:Expr}{it:Value}{body orelse:List Stmt}(I:Nat->J1->Prop)
  (turn:∀n s,I n s->ae (model prog w) A (J70 it) (λr s1a=>match r with
   |none=>ae (model prog w) A (execs orelse env) (λf s3a=>R (.ok f) s3a) (bg (model prog w) A env λe s'=>R (.error e) s') s1a
   |some v=>ae (model prog w) A (J2J target it v) (λy s1'=>
     ae (model prog w) A (J5d target env v) (λy s2a=>ae (model prog w) A (execs body env) (λf s3a=>match f with
      | .next| .cont=>∃m,m<n/\I m s3a
      | .brk=>R (.ok .next) s3a
      | .ret v=>R (.ok (.ret v)) s3a) (bg (model prog w) A env λe s'=>R (.error e) s') s2a) (bg (model prog w) A env λe s'=>R (.error e) s') s1') (bg (model prog w) A env λe s'=>R (.error e) s') s1a) (bg (model prog w) A env λe s'=>R (.error e) s') s)
  (n:Nat) (h:I n s):aC (model prog w) A (.forLoop target it body orelse env) R s:=by
 refine gV rfl I (λn s hI=> ?_) n h
 refine ek ?_
 refine aa (am (aa (cj (ag (turn n s hI) (λr s1a h1a=> ?_) λy y h'=>am h'))))
 cases r with
 |none=>exact af (.inr ⟨rfl,oi h1a⟩)
 |some v=>
  refine aa (ag h1a (λy s1' h1'=> ?_) λy y h'=>h')
  refine aa (ag h1' (λy s2a h2a=>aa (ag h2a (λf s3a h3a=> ?_) λy y h'=>h')) λy y h'=>h')
  cases f with
  |next=>exact af (.inl ⟨rfl,h3a⟩)
  |cont=>exact af (.inl ⟨rfl,h3a⟩)
  |brk=>exact af h3a
  |ret v=>exact af h3a
theorem i4 {body:List Stmt}
  (h:ae (model prog w) (J2G env) (execs body env) (λf s'=>R (.ok (.ret (match f with | .ret v=>v|_=>.none))) s')
   (λe s'=>ae (model prog w) (J2G env) (J5N env e) (λy s''=>R (.error e) s'') (λe' s''=>R (.error e') s'') s') s):
  aC (model prog w) A (.func body env) R s:=by
 refine aN ?_
 show ae _ (J2G env) (do point;match <- (execs body env).onRaise (J5N env) with | .ret v=>ret v|_=>ret .none) _ _ s
 refine aa (du (aa (cj (ag h (λf s' h'=> ?_) λy y h'=>h'))))
 cases f<;>exact af h'
theorem c8 {a:Addr}{args:Args}{o:Obj}{fd:JCT}{body:List Stmt}(hroom:J6u<J27)
  (ho:Jr a=some o)
  (hd':J2v=.func fd) (hco:JBH=false) (hgen:JBG=false) (hbody:fd.body=.stmts body) (hcd:J9A JE8 J8b)
  (h:ae (model prog w) J6t (JCK fd args) (λbinds s1a=>
   ae (model prog w) J6t (J6Q fd.scope fd.globals fd.closure binds (J8b++".<locals>.") (some a) JE8 none JHD)
    (λenv s2a=>JDd/\aC (model prog w) A (.func body env) R s2a) (λe s'=>R (.error e) s') s1a) (λe s'=>R (.error e) s') s):
  aC (model prog w) A (.call (.ref a) args) R s:=by
 refine aN ?_
 show ae _ J6t (JEF (.ref a) args) _ _ s
 refine aa (av (J2d ho ?_))
 refine e4_4 hcd λc oc vs tq hc hoc hdc hq=> ?_
 clear hcd
 simp only [Bq,hd',JGI,hco,hgen,hbody,hc]
 rw[hc] at h
 refine aa (m:=field (.ref c) 1) (av (J0Z hoc hdc hq (aa (af ?_))))
 exact aa (ag h (λbinds s1a h1a=>aa (ag h1a (λenv s2a h2a=>aa (av (JAK h2a.1 hroom
  (af (J4N rfl h2a.2))))) λy y h'=>h')) λy y h'=>h')
theorem cy {value slice:Expr}{o i:Value}{ops:List Value}{T id:J23}{Q:Value->J1->Prop}(hT:J6D o T)
  (hl:J31 (.type T) "__getitem__"=pure (some (.builtin id))) (hg:ae (model prog w) A (JBc o i) Q E s)
  (hs:J6Z slice false o i=operate ops (JBc o i)):ae (model prog w) A (J3i value slice o i) Q E s:=by
 unfold J3i
 refine aa ?_
 rw[getitemInPython_of_ne hT.not_modules]
 refine aa (av (J0F hT hl ?_))
 have fin:ae (model prog w) A (J6Z slice false o i) (λr s3a=>ae (model prog w) A (J6R value o r>>=λy=>pure r) Q E s3a) E s:=by
  rw[hs]
  exact dC (ag hg (λr s3a h3a=>aa (av (JBE (af h3a)))) λy y x=>x)
 first
  |exact af (aa fin)
  |exact aa (af (aa fin))
  |exact aa fin
theorem kK {Q:Bool->J1->Prop}(h:Q true s):
  ae (model prog w) A (forIn ([]:List Expr) true λc r=>if r=true then do let ok <- J0N c env (eval c env);pure (J1I ok) else pure (J1I r)) Q E s:=af h
theorem kJ {c:Expr}{Q:Bool->J1->Prop}(h:ae (model prog w) A (J0N c env (eval c env)) Q E s):
  ae (model prog w) A (forIn [c] true λc r=>if r=true then do let ok <- J0N c env (eval c env);pure (J1I ok) else pure (J1I r)) Q E s:=by
 rw[J3s,JC rfl]
 exact aa (aa (ag h (λb s2a h2a=>af (af h2a)) λy y x=>x))
theorem fq {elt target iter:Expr}{ifs:List Expr}{rest:List JAF}{scope:Scope}{pos:Pos}{it acc:Value}
  (h0:aC (model prog w) A (.compLoop (.ListComp elt (⟨target,iter,ifs,0⟩::rest) scope pos) 0 it acc env) R s)
  (h:ae (model prog w) A (J6P it) (λit' s'=>aC (model prog w) A (.compLoop (.ListComp elt (⟨target,iter,ifs,0⟩::rest) scope pos) 0 it' acc env) R s')
   (bg (model prog w) A env λx s'=>R (.error x) s') s):
  aC (model prog w) A (.compStart (.ListComp elt (⟨target,iter,ifs,0⟩::rest) scope pos) 0 it acc env) R s:=by
 refine aN ?_
 refine nv ?_
 refine aa (jt (ww ?_))
 split
 ·first
   |exact aa (af (af (J4N rfl h0)))
   |exact af (J4N rfl h0)
 ·first
   |exact aa (dU (aa (am (aa (ag h (λit' s' h'=>af (J4N rfl h')) λy y x=>x)))))
   |(refine aa (dU ?_);show ae _ _ (standAt iter.pos>>=_) _ _ s;exact aa (am (aa (ag h (λit' s' h'=>af (J4N rfl h')) λy y x=>x))))
end
section
variable {M:Model}{A:Around}{E:Value->Shared->Prop}{s:Shared}{env:Env}
def mA (M:Model) (A:J7) (E:Value->J1->Prop) (use:Option (Value->Sem Unit)) (Q:Value->J1->Prop) (acc:Value) (C:Addr) (r:J4y) (s':J1):Prop:=
 match r,use with
 | .ok _,none=>∃m,JCd C m/\∀h',J0m C J7X h'->Q acc { s' with heap:=h' }
 | .ok _,some u=>ae M A (u acc) (λy s''=>∃m,s''.heap.Ns C m/\∀h',J0m C s''.heap h'->Q .none { s'' with heap:=h' }) E s'
 | .error x,_=>∃m,JCd C m/\∀h',J0m C J7X h'->∀cenv:Env,J5O=C->ae M A (passOn "comprehension.variables-let-go" x cenv:Sem Value) (λy y=>False) E { s' with heap:=h' }
theorem nu {α:Type}{c:Prop}[Decidable c] {pos:Pos}{k:PUnit->Sem α}{Q:α->J1->Prop}(h:ae M A (k ()) Q E s):ae M A (if c then (standAt pos>>=k) else k ()) Q E s:=by
 split
 ·exact aa (am h)
 ·exact h
theorem cK {e:Expr}{scope:Scope}{pos:Pos}{newAcc first:Sem Value}{g:JAF}{gs:List JAF}{cl:List (Str×Addr)}{use:Option (Value->Sem Unit)}
  {Q:Value->J1->Prop}
  (hcl:clausesOf e=g::gs) (hs:∀x,J2K g.iter env x=pure x) (hclos:J47 scope env=pure cl)
  (hkind:J7U=.function) (hnames:∀x∈J17,x.2=.local->J21 x.1=some .local)
  (h:ae M A first (λx s1a=>ae M A (J6P x) (λit s2a=>ae M A newAcc (λacc s3a=>
   ae M A (J6Q scope J4g cl [] JFZ none .none (some env)) (λcenv s4a=>
    aC M A (.compStart e 0 it acc { cenv with scope:=J8L scope env }) (mA M A E use Q acc J5O) s4a) E s3a) E s2a) E s1a) E s):
  ae M A (JFb e scope env pos newAcc false first use) Q E s:=by
 unfold JFb
 refine (hclos).symm▸?_
 refine (hcl).symm▸?_
 refine aa (ag h (λx s1a h1a=>aa (am (aa (jY (hs x) (aa (ai (ag h1a (λit s2a h2a=>
  nu (aa (ag h2a (λacc s3a h3a=>aa (af (aa (ag h3a (λcenv s4a h4a=> ?_) λy y h'=>h')))) λy y h'=>h')))
   λy y h'=>h'))))))) λy y h'=>h')
 dsimp only
 have hv:∀x∈(J6x λx=>(x.2== .local||x.2== .cell)&&x.1 !=(".0":Str)).reverse,x.2=.local->
   Env.kindOf { cenv with scope:=J8L scope env } x.1=some .local:=λx hx hl=>lookup_relabel_local (hnames x (J25 (List.mem_reverse.mp hx)).1 hl)
 have hv':∀x∈(J6x λx=>(x.2== .local||x.2== .cell)&&x.1 !=(".0":Str)).reverse.drop 1++(J6x λx=>(x.2== .local||x.2== .cell)&&x.1 !=(".0":Str)).reverse.take 1,
   x.2=.local->Env.kindOf { cenv with scope:=J8L scope env } x.1=some .local:=λx hx hl=>by
  refine J3a (J08 hx) (λh1=> ?_) λh1=> ?_
  ·exact hv x (List.mem_of_mem_drop h1) hl
  ·exact hv x (J6M h1) hl
 refine ai (aa (eA (ai (oK (cX h4a λr s' hr=> ?_)))))
 clear s4a h4a
 cases r with
 |ok f=>
  cases use with
  |none=>
   refine e1_2 hr λm hn hr=> ?_
   exact aa (ai (av (J7w (cenv:={ cenv with scope:=J8L scope env }) hkind _ s' m hv hn λh' m' y hs'=>af (hr h' hs'))))
  |some u=>
   refine aa (dU (aa (ai (ag hr (λy s'' hr'=> ?_) λy y h'=>h'))))
   refine e1_2 hr' λm hn hr'=> ?_
   exact aa (av (J7w (cenv:={ cenv with scope:=J8L scope env }) hkind _ s'' m hv' hn λh' m' y hs'=>af (hr' h' hs')))
 |error x=>
  have hr':∃m,JCd J5O m/\∀h',J0m J5O J7X h'->∀cenv':Env,cenv'.locals=J5O->ae M A (passOn "comprehension.variables-let-go" x cenv':Sem Value) (λy y=>False) E { s' with heap:=h' }:=by cases use<;>exact hr
  refine e1_2 hr' λm hn hr=> ?_
  clear hr'
  exact aa (ai (av (J7w (cenv:={ cenv with scope:=J8L scope env }) hkind _ s' m hv hn λh' m' y hs'=>ag (hr h' hs' _ rfl) (λy y x=>x.elim) λy y x=>x)))
theorem nr {prog:J3Z}{w:World}{K:Type}[JHa K] {knd:J78 prog w K}{pairs:List (Sem Value×Sem Value)}{Q:Addr->J1->Prop}(hlen:JG7<=15)
  (h:ae (model prog w) A (J5w pairs) (λvs s1a=>∃kvs,JHb knd vs kvs/\J2g<=15/\JEy knd JS []/\
   ∀h',h'.DictOf knd JS (merged [] kvs)->J0m JS J46 h'->Q JS { s1a with heap:=h',toks:=s1a.toks+J5l }) E
   { s with heap:=J0T { cls:=.type "dict",data:=.dict #[] } }):
  ae (model prog w) A (subDict pairs) Q E s:=by
 unfold subDict
 refine aa (av (PySem.wpAny_alloc ?_))
 refine aa (ai ?_)
 refine (JC hlen).symm▸?_
 refine aa (ag h (λvs s1a h1a=> ?_) λy y e=>e)
 refine e1_4 h1a λkvs hc hvl hm hQ=> ?_
 clear h1a
 have hsz:([]:List (K×Value)).length+J2g<=J1g:=by
  rw[J3U,J30];exact z10 0x1110000007f800898f1f8081 hvl
 refine ai ?_
 refine aa (av (wpAny_storeAll (knd:=knd) vs kvs [] s1a _ hc hm hsz λh' hm' hs'=>af (af (hQ h' hm' hs'))))
theorem ju {prog:J3Z}{w:World}{K:Type}[JHa K] {knd:J78 prog w K}{keys:List (Option Expr)}{values:List Expr}{pos:Pos}{pairs:List (Sem Value×Sem Value)}{Q:Value->J1->Prop}
  (hshape:(JBe keys env).zip ((J9x values env).map λv=>do let x <- v;standAt pos;pure x)=pairs.map λp=>(some p.1,p.2)) (h0:pairs≠[]) (hlen:JG7<=15)
  (h:ae (model prog w) A (J5w pairs) (λvs s1a=>∃kvs,JHb knd vs kvs/\J2g<=15/\JEy knd JS []/\
   ∀h',h'.DictOf knd JS (merged [] kvs)->J0m JS J46 h'->Q (.ref JS) { s1a with heap:=h',toks:=s1a.toks+J5l }) E
   { s with heap:=J0T { cls:=.type "dict",data:=.dict #[] } }):
  ae (model prog w) A (eval (.Dict keys values pos) env) Q E s:=by
 rw[arm_eval_Dict,hshape,dictDisplay_pairs pairs h0 (by omega)]
 exact aa (am (aa (nr (knd:=knd) (Q:=λd s'=>ae (model prog w) A (pure (J4G d)) Q E s') hlen
  (ag h (λvs s1a h1a=>by obtain⟨kvs,hc,hl,hm,hq⟩:=h1a;exact (ie kvs hc hl hm (λh' a b=>af (hq h' a b)))) λy y e=>e))))
end
section
variable {prog:Program}{w:World}{A:Around}{E:Value->Shared->Prop}{s:Shared}
theorem hV {env:Env}{elts:List Expr}{k:Nat}{pos:Pos}{t:Addr}{items:Array Value}{Q:Unit->J1->Prop}(hh:J3v=none) (ht:J6N t items)
  (hn:(J1V elts env).length=J12) (hstar:(J1V elts env).findIdx? (·.1)=none)
  (h:∀h',J8x JS JG h'->ae (model prog w) A (J5Q ((J1V elts env).map (·.2)) J0P) Q E { s with heap:=h' }):
  ae (model prog w) A (J5d (.Tuple elts k pos) env (.ref t)) Q E s:=by
 rw[JDL]
 refine aa (am ?_)
 unfold unpack
 rw[hn,hstar]
 exact aa (ai (av (PySem.wpAny_unpackItems_tuple hh ht h)))
theorem fR {env:Env}{e:Expr}{pos:Pos}{Q:Flow->J1->Prop}(h:ae (model prog w) A (eval e env) (λy=>Q .next) E s)
  (hi:Jl (J8Y env=false) Jn) (hs:Jl (JDe e none J6E env=pure false) Jn):ae (model prog w) A (exec (.Expr e pos) env) Q E s:=by
 rw[exec_Expr env e pos hi hs]
 exact aa (am (aa (ag h (λv s' h'=>av (PySem.wpAny_dropValue h')) λy y x=>x)))
end
section
variable {prog:Program}{w:World}{A:Around}{E:Value->Shared->Prop}{R:Result->Shared->Prop}{s:Shared}
theorem codeAny_builtin {id:J23}{args:Args}{b:Builtin}(hb:J73 table id=some b)
  (h:ae (model prog w) (J5Y (.builtin id args)) (b args) (λfin s'=>match fin with | .done f=>R (.ok f) s'| .again c'=>JCI=true/\aC (model prog w) A c' R s') (λe s'=>R (.error e) s') s)
  (ok:Jl (okC (.builtin id args)=true) Jn):aC (model prog w) A (.builtin id args) R s:=by
 refine aN ?_ ok
 show ae _ _ (match J73 table id with |some b=>b args|none=>JBV ((withoutEnding? id "#data").getD id)) _ _ s
 rw[hb];exact h
theorem bV {id:J23}{args:Args}{b:Builtin}(hq:(Code.builtin id args).quiet=true) (hb:J73 table id=some b)
  (h:ae (model prog w) J6t (J2a id args) (λy s1a=>ae (model prog w) (J5Y (.builtin id args)) (b args)
   (λfin s'=>match fin with | .done f=>R (.ok f) s'| .again c'=>JCI=true/\aC (model prog w) A c' R s') (λe s'=>R (.error e) s') s1a)
   (λe s'=>R (.error e) s') s) (ok:Jl (okC (.builtin id args)=true) Jn):aC (model prog w) A (.call (.builtin id) args) R s:=by
 refine aN ?_
 show ae _ J6t (do J2a id args;again (.builtin id args)) _ _ s
 exact aa (ag h (λy s1a h1a=>af (J4N hq (codeAny_builtin hb h1a ok))) λy y h'=>h')
end
section
variable {prog:Program}{w:World}{A:Around}{C:Addr}{R:Result->Shared->Prop}{h:Heap}{g:Array GenState}{d:Drawn}{t:Nat}{os:OsState}
theorem xq {rest:List Value}{kw:List (Str×Value)}{init:Value}(Y:Makes (model prog w) h C) (hi:Looks (model prog w) h (J31 (.ref C) "__init__") (some init))
  (hb:∀self,Looks (model prog w) h (bindSpecial init self) (init,[self])) (hne:(some init !=some (Value.builtin "object.__init__"))=true∨(rest=[]/\kw=[]))
  (hq:aC (model prog w) (J5Y (.builtin "type.__call__" ⟨.ref C::rest,kw⟩)) (.call init ⟨.ref (JM+1)::rest,kw⟩) (InitBack (JM+1) R) ⟨(J2R J22).push (J3l C JM),g,d,t,os⟩):
  aC (model prog w) A (.call (.ref C) ⟨rest,kw⟩) R ⟨h,g,d,t,os⟩:=by
 have Y':=Y
 obtain⟨⟨oc,od,cd,sl,hC,e1,e2,e4⟩,made,base,self,top,call,typ⟩:=Y
 refine aN ?_
 show ae _ _ (JEF (.ref C) _) _ _ _
 refine av (nd_load hC ?_)
 show JF _ _ (JCp (.ref C) _) _ _ _
 unfold JCp
 refine kB (call.at ?_)
 dsimp only [Kq]
 rw[tc_bind]
 refine kB (JI (kB (JI ?_)))
 refine JI (a:=Fin.again (.call (.builtin "type.__call__") ⟨.ref C::rest,kw⟩)) (J4N rfl ?_)
 refine bV (J2u _ (by decide+kernel)) JF4 (av (check_slot tc_kind tc_split typ (tc_args _ _ _) ?_)) (by show (!(J0B "type.__call__"||J1k "type.__call__"))=true;decide+kernel)
 have hm:Looks (model prog w) h (mroOf (.ref C)) cd.mro:=((Looks.ld (part:=none) hC).andThen .now).andThen .now
 show ae _ _ (mroOf (.ref C)>>=_) _ _ _
 refine aa (av (hm.at ?_))
 refine bq ?_
 rw[e4]
 show ae _ _ (Bind.madeBy (.ref C)>>=_) _ _ _
 refine aa (av (made.at ?_))
 refine aa (af ?_)
 refine aa (ai (av (PySem.wpAny_call (new_K Y' hi hne ?_))))
 have k:∀b o,JN b=some o->((J2R J22).push (J3l C JM)).get? b=some o:=λb o e=>JY _ (JY _ e)
 have hx:((J2R J22).push (J3l C JM)).get? (JM+1)=some (J3l C JM):=by heap_get
 have t1:Looks (model prog w) ((J2R J22).push (J3l C JM)) (JDb (.ref (JM+1))) (.ref C):=(Looks.ld hx).andThen .now
 have s1:=self.keeps k
 have i1:=hi.keeps k
 have b1:=(hb (.ref (JM+1))).keeps k
 refine aa (av (kB (t1.at (s1.at ?_))))
 show ae _ _ (holding _ (JGH (.ref (JM+1)) _ rest kw)>>=_) _ _ _
 refine aa (ai ?_)
 unfold JGH specialOf
 refine aa (av (kB (t1.at (i1.at ?_))))
 refine ai (aa (av (b1.at ?_)))
 refine aa (bB ?_)
 refine cX hq λr s' z=> ?_
 rcases r with e|(v|_|_|_)<;>first|exact z|exact z.elim|skip
 obtain⟨rfl,z⟩:=z
 exact af (af z)
end
section
variable {prog:Program}{w:World}{A:Around}{K:Frag}{C x:Addr}{s:Shared}{h₀:Heap}{L:Addr}{m:Str->Option Value}{news:List (Addr×Obj)}{R:Result->Shared->Prop}
theorem Ag {rest:List Value}{kw:List (Str×Value)}{fI:Addr}(F:Fr h₀ L JG m) (N:News h₀ L JG news) (X:JAC JG) (hm:JDs K C=true)
  (hi:J3z K (.ref C) "__init__"=some (some (.ref fI))) (hf:JC4 K (.ref fI)=some (.type "function"))
  (h:∀x dx h',Fr h₀ L h' m->News h₀ L h' ((x,J3l C dx)::(dx,J22)::news)->(∀p∈news,p.1<dx)->dx<x->
   aC (model prog w) (J5Y (.builtin "type.__call__" ⟨.ref C::rest,kw⟩)) (.call (.ref fI) ⟨.ref x::rest,kw⟩) (InitBack x R) { s with heap:=h' }):
  aC (model prog w) A (.call (.ref C) ⟨rest,kw⟩) R s:=by
 obtain⟨hh,g,d,t,os⟩:=s
 refine xq (makes_of X hm) (JAd X hi) (λself=>bind_fn X self hf) (.inl rfl) (h _ J2Q _ ((F.push _).push _) ?_ (λp hp=>Jo (N p hp).1) (J1n _))
 have:=(N.push F J22).push (F.push _) (J3l C J2Q)
 rwa [J10] at this
end
theorem wE {prog:J3Z}{w:World}{t:Sem Fin}{s:J1}{R:J4y->J1->Prop}(hz:s.asleep)
  (h:ae (model prog w) JBi t (λfin s'=>∃f,fin=.done f/\(R (.ok f) s'/\AllBare JGs)) (λe s'=>R (.error e) s'/\AllBare JGs) s):
  ∃n r s' s'',schedN (denote table) prog w n (.single s ⟨t,.builtin "claim.caller" {},default,[]⟩)=.halted (outcomeOf r) s'/\PySem.runN (denote table) prog w n s ⟨t,.builtin "claim.caller" {},default,[]⟩=.halted (outcomeOf r) s'/\s'.forget=s''.forget/\R r s'':=by
 obtain⟨n,r,s1a,s2a,hs,hn,hf,hR⟩:=wp_halts_full (M:=model prog w) (R:=R) hz (J1l _ _ _ (λfin p s' y=>by
  refine e1_3 y λf er0 a b=> ?_
  clear y
  obtain rfl:=er0
  exact J4N a (leftWithCleanup_false_of_bare b)) (λe p s' y=>J4N y.1 (leftWithCleanup_false_of_bare y.2)) _ _ (h _ default caller_in ⟨by decide+kernel,rfl⟩))
 exact (bT n r s2a s1a hs hn hf hR)
theorem gn {g:Prop}(h:∀G:Prop,(g->G)->G):g:=h g id
abbrev Gq (q:J3Z) (loose:List Str) (XP:(Str->Option Value)->Heap->Prop) (YP:World->Heap->Prop) (r:RowW):Prop:=
 ∀(w:World) (s0a s1a:J1) (mg mb:Str->Option Value),Ground q loose J8M XP w s0a mg mb J46->YP w J46->∀(args:List WData) (vs:List Value) (as:List Addr),r.claim.pre args=true->WData.layableAll args=true->Laid J8M w s0a s1a args vs as->
  ∃f,mg JDn=some f/\ae (model JG5 w) JBi (JCv f vs) (λv s'=>JGf r.claim (JEE J7R) (J7L J7R) args s1a (.ok (.ret v)) s') (λe s'=>JGf r.claim (JEE J7R) (J7L J7R) args s1a (.error e) s') s1a
theorem hoPn {r:OpenRow}{q:J3Z}{loose:List Str}{Xt:J1->Bool}{XP:(Str->Option Value)->Heap->Prop}{α:Type}{Yf:J1->α}{Ya:World->α}{YP:World->Heap->Prop}{d:DefRec}{kwd:List (Str×Expr)}{N:Nat}
  (left:LeftO JG5 q loose Xt Yf Ya N) (hY:∀w s,Yf s=Ya w->YP w JG) (hYk:∀w h h',YP w h->(∀b o,JN b=some o->JW b=some o)->YP w h')
  (hX:∀s,Xt s=true->XP (JAY J0q) JG) (hXk:∀mg h h',XP mg h->(∀b o,JN b=some o->JW b=some o)->XP mg h')
  (hdef:defOf q JDn=some (d,kwd)) (hp:r.prog.theDef JDn=some (d.params,d.body,d.scope)) (hk:kwWritten? d.params.kwonlyargs d.params.kw_defaults=some kwd) (hRf:∀s,Xt s=true->RecFacts J8M JG) (hwr:(!r.writes||r.records.isEmpty)=true)
  (k1:r.wellSaid=true) (ok:(chainsOk q&&opensWell JG5&&(frees r.toRowW&&r.within.isEmpty))=true) (hb:r.prog.bare) (hw:r.toRowW.promised)
  (call:Gq q loose XP YP r.toRowW):r.Holds:=by
 simp only [J1r] at ok
 refine e0_3 ok λen0 hfr hin=> ?_
 clear ok
 obtain⟨hch,hop⟩:=en0
 refine e0_5 (frees_parts hfr) λhsame hu ha hap hm=> ?_
 have hid:=ident_freeW hu ha hap
 have hwi:r.toRowW.claim.within=[]:=J6o hin
 refine (bv k1 hw (i_aa hb hop (by show r.toRowW.makers.map _=[];rw[hm];rfl)) hw.witness (λw=>⟨(JH2 hX hch w).1,λs' hs'=>gn λG0a kk=> ?_⟩))
 obtain⟨s0a,hf,hg0,s,hT,hz,hgens,hg,GX,y⟩:=(JH2 (XP:=λmg h=>XP mg h/\RecFacts J8M h) (λs hs=>⟨hX s hs,hRf s hs⟩) hch w).2 s' hs'
 have RF:=GX.X.2
 have G0:Ground q loose [] XP w s (JAY J0q) (JAY J6I) JG:=⟨GX.T,GX.B,GX.D,GX.TE,GX.TD,GX.W,GX.X.1,GX.cls,GX.has,GX.apart,GX.once,GX.K⟩
 have G:=RF.ground G0
 have hgens:s.gens= #[]:=Array.eq_empty_of_size_eq_zero (JA1 hgens)
 refine kk (aO s0a hf hg0 s (bv hT (λn hn=> ?_) RF.1 RF.2.1 (λargs hpre hlay ord hord=>gn λG1' kk2=> ?_)))
 ·have:n=JDn:=by split at hn<;>simp_all
  refine JAT▸?_
  exact pinned_of_view hg G0 hdef hp hk
 obtain⟨⟨vs,s1a⟩,hlaid⟩:=J8m (layAllW_isSome (P:=JC3) (ord:=ord) G.has args r.args s (pre_splitW hpre).1)
 have keeps:=layAllW_keeps _ _ _ hlaid
 have hal:=layAllW_rest _ _ _ hlaid
 refine e1_3 (reads_layAllW hord _ _ _ hlaid hlay J46 (λk k e=>e)) λas hrd hwin hold=> ?_
 have L:Laid J8M w s s1a args vs as:=⟨(az ord hord hlaid),hrd,hwin,hold,keeps,hal.1.trans hgens,hal.2.2.1⟩
 have G1a:=G.keeps hXk keeps
 refine e1_2 (call w s s1a _ _ G1a (hYk _ _ _ (hY w s y) keeps) args vs as hpre hlay L) λf hfn hc=> ?_
 obtain⟨n,res,t',t'',hsched,hrun,hfo,hR,hos,hold'⟩:=wE (prog:=JG5) (w:=w) (R:=λres s'=>r.toRowW.claim.Ends s args vs s1a res s'/\s'.os=s.os/\OldK J46 J7X) (Shared.asleep_of_life hal.2.2.2 hz)
  (t:=do match <- nsGet mainNs JDn with
   |some f=>do ret (<- JCv f vs)
   |none=>JBV "claim.caller:no-such-global") (by
   refine aa (av (wpAny_nsGet G1a.T.g ?_))
   refine (hfn).symm▸?_
   refine aa (ag hc (λv s' g=>af (az _ rfl ?_)) λe s' g=> ?_)<;>
   ·have z:=g.laid (c:=r.toRowW.claim) hsame hwi hid L
    exact⟨(i_aa z.1 z.2.1 g.2.1),z.2.2⟩)
 refine e0_5 (Shared.forget_eq hfo) λeh k k eo k=> ?_
 have hlife:=(runN_life _ _ _ hrun).trans hal.2.2.2
 refine kk2 (eJ vs s1a hlaid (dj n _ t' hsched ?_ (λk i x hx=>by rw[hgens] at hx;simp at hx) (λq=>⟨namesKept_of hT hg r.keeps keeps (by rw[eh];exact hold'.old),noTable hwr q⟩) (by rw[hlife]) (Shared.rest_eq (eo.trans hos))))
 clear hrun hsched
 rcases (hR.congr eh) with⟨v,rfl,d1,d2,d3,d4,d5⟩|⟨e,ob,cls,rfl,d1,d2,d3,d4,d5⟩
 ·exact .inl (ie v rfl d1 d2 (i_aa d3 (λb o y k=>d4 b o y) d5))
 ·exact .inr (dj e ob cls rfl d1 d2 d3 d4 (λb o y k=>d5 b o y))
set_option genSizeOf false
set_option genInjectivity false
abbrev Led:=List (Addr×Obj)
abbrev FzP:=Addr->Obj->Prop
inductive PV where
 |none
 |bool (b:Bool)
 |int (i:Int)
 |str (s:Str)
 |bytes (b:List UInt8)
 |tup (vs:List PV)
 |lst (vs:List PV)
 |inst (C:Addr) (as:List (Nat×PV))
 |rng (a b c:Int)
 |val (v:Value)
inductive EV where
 |pv (p:PV)
 |loc (i:Nat)
 |bad
inductive SO where
 |list (vs:List PV)
 |elist (es:List EV)
 |sdict (as:List (Nat×EV))
 |tdict (es:List (List Int×PV))
 |ba (b:List UInt8)
 |inst (C:Addr) (as:List (Nat×EV))
 |tab
 |dead
structure St where
 lo:List (Option EV)
 ce:List (Option EV)
 co:List (Option EV)
 sl:List SO
inductive Lab where
 |fz
 |slot (i:Nat)
 |cell (i:Nat)
 |comp
 |held
 |junk
abbrev Own:=Addr->Lab
def aF:List Str:=(["octets","at","packed","summed","copies","dedup","dvas","kind","level","lsize","psize","birth"]:List Str)++((["fill","sum",
 "io","size","chain","number","seq","written","ahead","sector","blocks","gone"]:List Str)++(["next","births",
 "create","make_dir","symlink","remove","remove_dir","link","rename","write","truncate","set_mode"]:List Str))
def ak (k:Nat):Str:=aF.getD k "?"
theorem kW:aF.Nodup:=by decide+kernel
theorem cY {i j:Nat}(hi:i<J1L) (hj:j<J1L) (h:ak i=ak j):i=j:=by
 unfold ak at h
 simp only [JAw,Jy hi,Jy hj,Option.getD_some] at h
 have P:=J2r kW
 rcases JCz i j with q|q|q
 ·exact absurd h (P i j hi hj q)
 ·exact q
 ·exact absurd h.symm (P j i hj hi q)
abbrev kL (its:Array Value) (n:Nat):Obj:={ cls:=.type "tuple",data:=.seq its n }
abbrev bG (its:Array Value) (n:Nat):Obj:={ cls:=.type "list",data:=.seq its n }
mutual
inductive PR (fz:FzP):PV->Value->Prop where
 |none:PR fz .none .none
 |bool (b:Bool):PR fz (.bool b) (.bool b)
 |int (i:Int) (t:Tok):PR fz (.int i) (.int i t)
 |str (s:Str) (t:Tok):PR fz (.str s) (.str s t)
 |bytes {b:List UInt8}{a:Array UInt8}(h:a.toList=b) (t:Tok):PR fz (.bytes b) (.bytes a t)
 |tup {vs:List PV}{a:Addr}{items:Array Value}{n:Nat}(h:fz a (kL items n)) (hi:PRs fz vs items.toList):PR fz (.tup vs) (.ref a)
 |lst {vs:List PV}{a:Addr}{items:Array Value}{n:Nat}(h:fz a (bG items n)) (hi:PRs fz vs items.toList):PR fz (.lst vs) (.ref a)
 |inst {C x d:Addr}{as:List (Nat×PV)}{es:List DictEntry}{n:Nat}(hx:fz x (instObj C d)) (hd:fz d (dictOf es n)) (ha:PRa fz as es):PR fz (.inst C as) (.ref x)
 |rng {a b c:Int}{r:Addr}{t u v:Tok}(h:fz r { cls:=.type "range",data:=.fields #[.int a t,.int b u,.int c v] }):PR fz (.rng a b c) (.ref r)
 |val (v:Value):PR fz (.val v) v
inductive PRs (fz:FzP):List PV->List Value->Prop where
 |nil:PRs fz [] []
 |cons {p:PV}{v:Value}{ps:List PV}{vs:List Value}(h:PR fz p v) (hs:PRs fz ps vs):PRs fz (p::ps) (v::vs)
inductive PRa (fz:FzP):List (Nat×PV)->List DictEntry->Prop where
 |nil:PRa fz [] []
 |cons {k:Nat}{p:PV}{e:DictEntry}{t:Tok}{as:List (Nat×PV)}{es:List DictEntry}(hk:e.key=.str (ak k) t) (hl:k<aF.length) (h:PR fz p e.val) (hs:PRa fz as es):PRa fz ((k,p)::as) (e::es)
end
inductive EVR (fz:FzP) (ρ:List Addr):EV->Value->Prop where
 |pv {p:PV}{v:Value}(h:PR fz p v):EVR fz ρ (.pv p) v
 |loc {i:Nat}{a:Addr}(h:ρ[i]? =some a):EVR fz ρ (.loc i) (.ref a)
 |bad (v:Value):EVR fz ρ .bad v
inductive EVs (fz:FzP) (ρ:List Addr):List EV->List Value->Prop where
 |nil:EVs fz ρ [] []
 |cons {e:EV}{v:Value}{es:List EV}{vs:List Value}(h:EVR fz ρ e v) (hs:EVs fz ρ es vs):EVs fz ρ (e::es) (v::vs)
inductive EVa (fz:FzP) (ρ:List Addr):List (Nat×EV)->List J0g->Prop where
 |nil:EVa fz ρ [] []
 |cons {k:Nat}{p:EV}{e:J0g}{t:Tok}{as:List (Nat×EV)}{es:List J0g}(hk:e.key=.str (ak k) t) (hl:k<J1L) (h:EVR fz ρ p e.val) (hs:EVa fz ρ as es):EVa fz ρ ((k,p)::as) (e::es)
inductive EVk (fz:FzP) (ρ:List Addr):List (Nat×EV)->List (Str×Value)->Prop where
 |nil:EVk fz ρ [] []
 |cons {k:Nat}{p:EV}{v:Value}{as:List (Nat×EV)}{es:List (Str×Value)}(hl:k<J1L) (h:EVR fz ρ p v) (hs:EVk fz ρ as es):EVk fz ρ ((k,p)::as) ((ak k,v)::es)
def PRI (fz:FzP):PV->Value->Prop
 | .none,v=>v=.none
 | .bool b,v=>v=.bool b
 | .int i,v=>∃t,v=.int i t
 | .str s,v=>∃t,v=.str s t
 | .bytes b,v=>∃a t,v=.bytes a t/\JFf=b
 | .tup vs,v=>∃a items n,v=.ref a/\fz a (kL items n)/\PRs fz vs J0P
 | .lst vs,v=>∃a items n,v=.ref a/\fz a (bG items n)/\PRs fz vs J0P
 | .inst C as,v=>∃x d es n,v=.ref x/\fz x (J3l C d)/\fz d (J5c es n)/\PRa fz as es
 | .rng a b c,v=>∃r t u w,v=.ref r/\fz r { cls:=.type "range",data:=.fields #[.int a t,.int b u,.int c w] }
 | .val u,v=>v=u
section
variable {fz:FzP}{ρ:List Addr}
theorem PR.inv {p:PV}{v:Value}(h:PR fz p v):PRI fz p v:=by
 cases h with
 |none=>rfl
 |bool=>rfl
 |int _ t=>exact⟨t,rfl⟩
 |str _ t=>exact⟨t,rfl⟩
 |bytes h t=>exact (eJ _ t rfl h)
 |tup h hi=>exact (cC _ _ _ rfl h hi)
 |lst h hi=>exact (cC _ _ _ rfl h hi)
 |inst hx hd ha=>exact (bT _ _ _ _ rfl hx hd ha)
 |rng h=>exact (jC _ _ _ _ ⟨rfl,h⟩)
 |val=>rfl
theorem PRs.invL {p:PV}{ps:List PV}{ws:List Value}(h:PRs fz (p::ps) ws):∃v vs,ws=v::vs/\PR fz p v/\PRs fz ps vs:=by
 cases h with |cons h hs=>exact⟨_,_,rfl,h,hs⟩
theorem EVR.pvI {p:PV}{v:Value}(h:EVR fz ρ (.pv p) v):PR fz p v:=by cases h with |pv h=>exact h
theorem EVR.inv {i:Nat}{v:Value}(h:EVR fz ρ (.loc i) v):∃a,v=.ref a/\ρ[i]? =some a:=by cases h with |loc h=>exact⟨_,rfl,h⟩
theorem EVs.inv {p:EV}{v:Value}{ps:List EV}{vs:List Value}(h:EVs fz ρ (p::ps) (v::vs)):EVR fz ρ p v/\EVs fz ρ ps vs:=by
 cases h with |cons h hs=>exact⟨h,hs⟩
theorem EVs.invL {p:EV}{ps:List EV}{ws:List Value}(h:EVs fz ρ (p::ps) ws):∃v vs,ws=v::vs/\EVR fz ρ p v/\EVs fz ρ ps vs:=by
 cases h with |cons h hs=>exact⟨_,_,rfl,h,hs⟩
theorem EVs.inv2 {p q:EV}{v u:Value}{ps:List EV}{vs:List Value}(h:EVs fz ρ (p::q::ps) (v::u::vs)):EVR fz ρ p v/\EVR fz ρ q u/\EVs fz ρ ps vs:=⟨J7x.1,J7x.2.inv⟩
theorem EVs.inv3 {p q r:EV}{v u x:Value}{ps:List EV}{vs:List Value}(h:EVs fz ρ (p::q::r::ps) (v::u::x::vs)):EVR fz ρ p v/\EVR fz ρ q u/\EVR fz ρ r x/\EVs fz ρ ps vs:=⟨J7x.1,J7x.2.inv2⟩
end
section mono
variable {fz fz':FzP}(m:∀a o,fz a o->fz' a o)
include m
mutual
theorem PR.mono {p:PV}{v:Value}(h:PR fz p v):PR fz' p v:=by
 cases h with
 |none=>exact .none
 |bool b=>exact .bool b
 |int i t=>exact .int i t
 |str s t=>exact .str s t
 |bytes h t=>exact .bytes h t
 |tup h hi=>exact .tup (m _ _ h) (PRs.mono hi)
 |lst h hi=>exact .lst (m _ _ h) (PRs.mono hi)
 |inst hx hd ha=>exact .inst (m _ _ hx) (m _ _ hd) (PRa.mono ha)
 |rng h=>exact .rng (m _ _ h)
 |val v=>exact .val v
theorem PRs.mono {p:List PV}{v:List Value}(h:PRs fz p v):PRs fz' p v:=by
 cases h with
 |nil=>exact .nil
 |cons h hs=>exact .cons (PR.mono h) (PRs.mono hs)
theorem PRa.mono {p:List (Nat×PV)}{v:List DictEntry}(h:PRa fz p v):PRa fz' p v:=by
 cases h with
 |nil=>exact .nil
 |cons hk hl h hs=>exact .cons hk hl (PR.mono h) (PRa.mono hs)
end
end mono
theorem EVR.mono {fz fz':FzP}{ρ ρ':List Addr}(m:∀a o,fz a o->fz' a o) (hr:∀(i:Nat) (a:Addr),ρ[i]? =some a->ρ'[i]? =some a) {e:EV}{v:Value}(h:EVR fz ρ e v):EVR fz' ρ' e v:=by
 cases h with
 |pv h=>exact .pv (J6l m h)
 |loc h=>exact .loc (hr _ _ h)
 |bad v=>exact .bad v
theorem EVs.mono {fz fz':FzP}{ρ ρ':List Addr}(m:∀a o,fz a o->fz' a o) (hr:∀(i:Nat) (a:Addr),ρ[i]? =some a->ρ'[i]? =some a) {e:List EV}{v:List Value}(h:EVs fz ρ e v):EVs fz' ρ' e v:=by
 induction h with
 |nil=>exact .nil
 |cons h _ ih=>exact .cons (JCD m hr) ih
theorem EVa.mono {fz fz':FzP}{ρ ρ':List Addr}(m:∀a o,fz a o->fz' a o) (hr:∀(i:Nat) (a:Addr),ρ[i]? =some a->ρ'[i]? =some a) {e:List (Nat×EV)}{v:List J0g}(h:EVa fz ρ e v):EVa fz' ρ' e v:=by
 induction h with
 |nil=>exact .nil
 |cons hk hl h _ ih=>exact .cons hk hl (JCD m hr) ih
theorem EVk.mono {fz fz':FzP}{ρ ρ':List Addr}(m:∀a o,fz a o->fz' a o) (hr:∀(i:Nat) (a:Addr),ρ[i]? =some a->ρ'[i]? =some a) {e:List (Nat×EV)}{v:List (Str×Value)}(h:EVk fz ρ e v):EVk fz' ρ' e v:=by
 induction h with
 |nil=>exact .nil
 |cons hl h _ ih=>exact .cons hl (JCD m hr) ih
end Internal
namespace Internal
theorem EA {R:J8C}{x:WData}(h:J9e R x .int=true):∃i,x=.int i:=by
 cases x<;>first|exact⟨_,rfl⟩|(exact absurd (show false=true from h) J1U)
theorem CL {R:J8C}{xs:List WData}:J8i R xs .int=true->∃l:List Int,xs=JE J4j:=by
 induction xs with
 |nil=>exact λy=>⟨[],rfl⟩
 |cons x r ih=>
  intro h
  refine e0_2 (J07 (show (J9e R x .int&&J8i R r .int)=true from h)) λh1 h2=> ?_
  refine e1_1 (EA h1) λi er0=> ?_
  refine e1_1 (ih h2) λl er1=> ?_
  exact⟨i::l,by rw[er0,er1];rfl⟩
theorem CE {R:J8C}{x:WData}(h:J9e R x (.list .int)=true):∃l:List Int,x=.list (JE J4j):=by
 cases x with
 |list xs=>
  obtain⟨l,rfl⟩:=CL (xs:=xs) (Or.resolve_right (JAN (show (J8i R xs .int||false)=true from h)) J1U)
  exact⟨l,rfl⟩
 |_=>exact absurd (show false=true from h) J1U
theorem Da {args:List WData}(h:PySem.Challenge.rw_np0206_01.row.toRowW.claim.pre args=true):∃scr:List Int,args=[.list (J6b J4j)]/\J9S<=63:=by
 refine e0_2 (pre_splitW h) λh1 h2=> ?_
 clear h
 cases args with
 |nil=>exact absurd (show false=true from h1) J1U
 |cons x r=>
  refine e0_2 (J07 (show (J9e _ x (.list .int)&&WShape.hasAll _ r [])=true from h1)) λh3 h4=> ?_
  clear h1
  cases r with
  |cons _ _=>exact absurd (show false=true from h4) J1U
  |nil=>
   refine e1_1 (CE h3) λscr er0=> ?_
   clear h3
   obtain rfl:=er0
   refine (az scr rfl ?_)
   rcases J1Y 63 J9S with q|q
   ·have e:(decide ((63:Int)<((J6b J4j).length:Nat)))=true:=Jq (by rw[J6];exact z10 0x110e3f2f8103f2f891 q)
    have h5:JAr [] (.and (.not (.lt (.lit (.int 63)) (.len (.arg 0)))) (.lit (.bool true))) { args:=[.list (J6b J4j)] }=true:=h2
    have h6:J8h [] (.not (.lt (.lit (.int 63)) (.len (.arg 0)))) { args:=[.list (J6b J4j)] }=some (.bool (!(decide ((63:Int)<((J6b J4j).length:Nat))))):=rfl
    unfold JAr at h5
    rw[J8h,h6,e] at h5
    exact absurd (show false=true from h5) J1U
   ·exact q
theorem xz {R:J8C}{cl:Str->Option Addr}{P:Params}{ord:List J0g->List J0g}(l:List Int):∀(s:J1) (r:List Value×J1),layAllW R cl P ord (JE J4j) s=some r->∀fz,PRs fz (JE J3G) r.1:=by
 induction l with
 |nil=>intro s r h fz;cases h;exact .nil
 |cons i l ih=>
  intro s r h fz
  refine e2_3 (JG9 h) λa q h1 h2 er0=> ?_
  refine Jm▸?_
  clear er0
  cases h1
  exact .cons (.int _ _) (ih _ q h2 fz)
theorem xy {R:J8C}{cl:Str->Option Addr}{P:Params}{ord:List J0g->List J0g}{l:List Int}{s s1a:J1}{vs:List Value}(h:layAllW R cl P ord [.list (JE J4j)] s=some (vs,s1a)):
  ∃a items n,vs=[.ref a]/\JG0 a=some (bG items n)/\∀fz,PRs fz (JE J3G) J0P:=by
 refine e2_3 (JG9 h) λa q h1 h2 e=> ?_
 refine e1_2 (layW_list h1) λx hx er0=> ?_
 clear h h1
 obtain rfl:=er0
 cases h2
 cases e
 exact (cC _ x.1.toArray _ rfl (by heap_get) (λfz=>xz l s x hx fz))
abbrev prog0:J3Z:=PySem.Challenge.rw_np0206_01.row.prog
abbrev IK (w:World):J78 prog0 w Int:=intKind prog0 w
abbrev SK (w:World):J78 prog0 w Str:=PySem.strKind prog0 w
abbrev TK (w:World):HeapKind prog0 w (List Int):=tupleKind (IK w)
def aI (F:FzP) (N:Led) (own:Own):FzP:=λa o=>F a o∨((a,o)∈N/\own a=.fz)
inductive LO (N:Led) (fz:FzP) (a:Addr) (vs:List PV):Prop
 |mk (items:Array Value) (n:Nat) (h:(a,bG items n)∈N) (hi:PRs fz vs J0P)
inductive TEs (fz:FzP):List (List Int×PV)->List (List Int×Addr×Value)->Prop where
 |nil:TEs fz [] []
 |cons {k:List Int}{p:PV}{b:Addr}{v:Value}{es:List (List Int×PV)}{xs:List (List Int×Addr×Value)}
   (hp:PR fz (.tup (k.map .int)) (.ref b)) (h:PR fz p v) (hs:TEs fz es xs):TEs fz ((k,p)::es) ((k,b,v)::xs)
inductive ej (N:Led) (own:Own) (i:Nat):List Value->Prop where
 |nil:ej N own i []
 |cons {l c:Int}{t u:Tok}{a:Addr}{o:Obj}{vs:Array Value}{tq:Tok}{r:List Value}(h:(a,o)∈N) (ho:own a=.slot i) (hd:J2v=.fields vs) (hv:vs[1]? =some (.str "law.<locals>.<lambda>" tq)) (hr:ej N own i r):ej N own i (.int l t::.int c u::.ref a::r)
theorem ej.mono {N N':Led}{own own':Own}{i j:Nat}(hN:∀b o,own b=.slot i->(b,o)∈N->(b,o)∈N') (hO:∀b o,own b=.slot i->(b,o)∈N->own' b=.slot j) {l:List Value}(h:ej N own i l):ej N' own' j l:=by
 induction h with
 |nil=>exact .nil
 |cons h ho hd hv _ ih=>exact .cons (hN _ _ ho h) (hO _ _ ho h) hd hv ih
inductive SOR (w:World) (N:Led) (own:Own) (fz:FzP) (ρ:List Addr) (i:Nat) (a:Addr):SO->Prop where
 |list {vs:List PV}(h:LO N fz a vs):SOR w N own fz ρ i a (.list vs)
 |elist {es:List EV}{items:Array Value}{n:Nat}(h:(a,bG items n)∈N) (hl:EVs fz ρ es J0P):SOR w N own fz ρ i a (.elist es)
 |sdict {as:List (Nat×EV)}{o:Obj}{ds:Array J0g}{ep:Nat}{kvs:List (Str×Value)}(h:(a,o)∈N) (lo:(a==J2I)=false) (hx:J8Q) (hd:J2v=.dict ds ep) (hk:J7p (SK w) ds) (hp:Pairs (SK w) J5y kvs)
   (hn:(J4f (·.1)).Nodup) (ha:EVk fz ρ as kvs):SOR w N own fz ρ i a (.sdict as)
 |tdict {es:List (List Int×PV)}{o:Obj}{ds:Array J0g}{ep:Nat}{xs:List (List Int×Addr×Value)}(h:(a,o)∈N) (lo:(a==J2I)=false) (hx:J8Q) (hd:J2v=.dict ds ep)
   (he:J5y=J8G (J9Y (TK w))) (hn:(J4w (·.1)).Nodup) (ht:TEs fz es xs):SOR w N own fz ρ i a (.tdict es)
 |ba {b:List UInt8}{arr:Array UInt8}(h:(a,({ cls:=.type "bytearray",data:=.bytearray arr 0 }:Obj))∈N) (hb:J9d=b):SOR w N own fz ρ i a (.ba b)
 |inst {C d:Addr}{as:List (Nat×EV)}{es:List J0g}{n:Nat}(hx:(a,J3l C d)∈N) (hd:(d,J5c es n)∈N) (ho:own d=.slot i) (hne:a≠d) (ha:EVa fz ρ as es):SOR w N own fz ρ i a (.inst C as)
 |tab {items:Array Value}(h:(a,JAU items)∈N) (ht:ej N own i J0P):SOR w N own fz ρ i a .tab
 |dead:SOR w N own fz ρ i a .dead
def G5 (w:World) (N:Led) (own:Own) (fz:FzP) (ρ:List Addr) (i:Nat) (a:Addr):SO->Prop
 | .list vs=>LO N fz a vs
 | .elist es=>∃items n,(a,bG items n)∈N/\EVs fz ρ es J0P
 | .sdict as=>∃o ds ep kvs,(a,o)∈N/\(a==J2I)=false/\J8Q/\J2v=.dict ds ep/\J7p (SK w) ds/\Pairs (SK w) J5y kvs/\(J4f (·.1)).Nodup/\EVk fz ρ as kvs
 | .tdict es=>∃o ds ep xs,(a,o)∈N/\(a==J2I)=false/\J8Q/\J2v=.dict ds ep/\J5y=J8G (J9Y (TK w))/\(J4w (·.1)).Nodup/\TEs fz es xs
 | .ba b=>∃arr,(a,({ cls:=.type "bytearray",data:=.bytearray arr 0 }:Obj))∈N/\J9d=b
 | .inst C as=>∃d es n,(a,J3l C d)∈N/\(d,J5c es n)∈N/\own d=.slot i/\a≠d/\EVa fz ρ as es
 | .tab=>∃items,(a,JAU items)∈N/\ej N own i J0P
 | .dead=>True
theorem SOR.inv {w:World}{N:Led}{own:Own}{fz:FzP}{ρ:List Addr}{i:Nat}{a:Addr}{so:SO}(h:SOR w N own fz ρ i a so):G5 w N own fz ρ i a so:=by
 cases h with
 |list h=>exact h
 |elist h hl=>exact (eJ _ _ h hl)
 |sdict h lo hx hd hk hp hn ha=>exact (dw _ _ _ _ h lo hx hd hk (i_aa hp hn ha))
 |tdict h lo hx hd he hn ht=>exact (dw _ _ _ _ h lo hx hd he ⟨hn,ht⟩)
 |ba h hb=>exact (az _ h hb)
 |inst hx hd ho hne ha=>exact (gD _ _ _ hx hd ho hne ha)
 |tab h ht=>exact (az _ h ht)
 |dead=>trivial
structure Nm where
 nm:List (Str×J1T)
 comp:Bool
 ln:List Str
 cn:List Str
 kn:List Str
 top:Bool
structure Fx where
 g:Heap
 L:Addr
 ca:List Addr
 Lc:Option Addr
 ρ0:List Addr
 fz0:FzP
 K:Frag
 hs:Led
structure aA (w:World) (Γ:Nm) (X:Fx) (st:St) (T:List EV) (vs:List Value) (h:Heap) (N:Led) (own:Own) (ρ:List Addr) (m:Str->Option Value):Prop where
 fr:Fr X.g X.L h m
 nw:News X.g X.L h N
 lo:∀(i:Nat) (x:Str) (e:EV),Γ.ln[i]? =some x->JDh[i]? =some (some e)->∃v,m x=some v/\EVR (aI JA N own) ρ e v
 ce:∀(i:Nat) (c:Addr),X.ca[i]? =some c->own c=.cell i/\∃o ov,(c,o)∈N/\J2v=.cell ov/\∀e,JAV[i]? =some (some e)->∃v,ov=some v/\EVR (aI JA N own) ρ e v
 co:∀c,X.Lc=some c->own c=.comp/\∃o es ep,(c,o)∈N/\J2v=.dict es ep/\JBk es/\∀(i:Nat) (x:Str) (e:EV),Γ.kn[i]? =some x->JDi[i]? =some (some e)->∃v,J8R es x=some v/\EVR (aI JA N own) ρ e v
 rho:∀(i:Nat) (a:Addr) (so:SO),ρ[i]? =some a->J5[i]? =some so->so=.dead∨own a=.slot i
 len:JK=ρ.length
 sl:∀(i:Nat) (a:Addr) (so:SO),ρ[i]? =some a->J5[i]? =some so->SOR w N own (aI JA N own) ρ i a so
 pre:X.ρ0 <+: ρ
 tmp:EVs (aI JA N own) ρ T vs
 held:∀p∈JEP,p∈N/\own p.1=.held
 hnd:(X.hs.map (·.1)).Nodup
abbrev Fx.hold (X:Fx) (hs:Led):Fx:={ X with hs:=hs++JEP }
abbrev Fx.incomp (X:Fx) (c:Addr):Fx:={ X with Lc:=some c }
inductive Rel (w:World) (Γ:Nm) (X:Fx) (st:St) (T:List EV) (vs:List Value) (h:Heap):Prop
 |mk (N:Led) (own:Own) (ρ:List Addr) (m:Str->Option Value) (R:aA w Γ X st T vs h N own ρ m)
theorem Rel.el {w:World}{Γ:Nm}{X:Fx}{st:St}{T:List EV}{vs:List Value}{h:Heap}{C:Prop}(H:Rel w Γ X st T vs h) (k:∀N own ρ m,aA w Γ X st T vs h N own ρ m->C):C:=by
 obtain⟨N,own,ρ,m,R⟩:=H
 exact k N own ρ m R
abbrev At (s:J1) (h:Heap) (t:Nat):J1:={ s with heap:=h,toks:=t }
section mono
variable {N N':Led}{own own':Own}{fz fz':FzP}{ρ ρ':List Addr}(m:∀a o,fz a o->fz' a o)
include m
theorem LO.mono {a:Addr}{vs:List PV}(hN:∀o,(a,o)∈N->(a,o)∈N') (h:LO N fz a vs):LO N' fz' a vs:=by
 obtain⟨items,n,h1,h4⟩:=h
 exact⟨items,n,hN _ h1,J2o m h4⟩
theorem TEs.mono {es:List (List Int×PV)}{xs:List (List Int×Addr×Value)}(h:TEs fz es xs):TEs fz' es xs:=by
 induction h with
 |nil=>exact .nil
 |cons hp h _ ih=>exact .cons (J6l m hp) (J6l m h) ih
theorem SOR.mono {w:World}{i:Nat}{a:Addr}{so:SO}(hr:∀(i:Nat) (a:Addr),ρ[i]? =some a->ρ'[i]? =some a) (hN:∀b o,own b=.slot i->(b,o)∈N->(b,o)∈N') (ho:∀b o,own b=.slot i->(b,o)∈N->own' b=own b) (ha:own a=.slot i)
  (h:SOR w N own fz ρ i a so):SOR w N' own' fz' ρ' i a so:=by
 cases h with
 |list h=>exact .list (JCD m λo=>hN _ o ha)
 |elist h hl=>exact .elist (hN _ _ ha h) (hl.mono m hr)
 |sdict h lo hx hd hk hp hn h2=>exact .sdict (hN _ _ ha h) lo hx hd hk hp hn (h2.mono m hr)
 |tdict h lo hx hd he hn ht=>exact .tdict (hN _ _ ha h) lo hx hd he hn (J9u m)
 |ba h hb=>exact .ba (hN _ _ ha h) hb
 |inst hx hd h1 hne h2=>exact .inst (hN _ _ ha hx) (hN _ _ h1 hd) (by rw[ho _ _ h1 hd];exact h1) hne (h2.mono m hr)
 |tab h ht=>exact .tab (hN _ _ ha h) (J9u hN λb o q h=>(ho b o q h).trans q)
 |dead=>exact .dead
end mono
structure Ext (lab:Option Lab) (N:Led) (own:Own) (N':Led) (own':Own):Prop where
 keep:∀b o,(b,o)∈N->some (own b)≠lab->(b,o)∈N'
 same:∀b o,(b,o)∈N->own' b=own b
 nf:lab≠some .fz
theorem Ext.fz {lab:Option Lab}{N N':Led}{own own':Own}{F:FzP}(e:Ext lab N own N' own'):∀a o,aI F N own a o->aI F N' own' a o:=by
 rintro a o (h|⟨h,q⟩)
 ·exact .inl h
 ·exact .inr ⟨J5G a o h (by rw[q];exact λz=>e.nf z.symm),(J4h a o h).trans q⟩
theorem e8 {ρ ρ':List Addr}(p:ρ <+: ρ'):∀(i:Nat) (a:Addr),ρ[i]? =some a->ρ'[i]? =some a:=by
 refine e1_1 p λt er0=> ?_
 clear p
 obtain rfl:=er0
 intro i a h
 rw[J0W (by
  rcases J1Y i ρ.length with q|q
  ·exact q
  ·rw[J0H q] at h;cases h)]
 exact h
section
variable {w:World}{Γ:Nm}{X:Fx}{st:St}{T:List EV}{vs:List Value}{h h':Heap}{N N':Led}{own own':Own}{ρ ρ':List Addr}{m m':Str->Option Value}
theorem SOR.in {so:SO}{fz:FzP}{i:Nat}{a:Addr}(s:SOR w N own fz ρ i a so) (hn:so≠.dead):∃o,(a,o)∈N:=by
 cases s with
 |list h=>obtain⟨_,_,h,_⟩:=h;exact⟨_,h⟩
 |elist h _=>exact⟨_,h⟩
 |sdict h _ _ _ _ _ _ _=>exact⟨_,h⟩
 |tdict h _ _ _ _ _ _=>exact⟨_,h⟩
 |ba h _=>exact⟨_,h⟩
 |inst h _ _ _ _=>exact⟨_,h⟩
 |tab h _=>exact⟨_,h⟩
 |dead=>exact absurd rfl hn
theorem aA.own_slot (H:aA w Γ X st T vs h N own ρ m) {i:Nat}{a:Addr}{so:SO}(h1:ρ[i]? =some a) (h2:J5[i]? =some so) (hn:so≠.dead):own a=.slot i:=
 (JBv i a so h1 h2).resolve_left hn
theorem aA.add (H:aA w Γ X st T vs h N own ρ m) (e:Ext none N own N' own') (F':Fr X.g X.L h' m) (W':News X.g X.L h' N'):aA w Γ X st T vs h' N' own' ρ m:=by
 have mz:=e.fz (F:=JA)
 have hr:∀(i:Nat) (a:Addr),ρ[i]? =some a->ρ[i]? =some a:=λy y h=>h
 refine⟨F',W',?_,?_,?_,?_,J6r,?_,JHU,J5L mz hr,λp hp=>⟨J5G _ _ (J3H p hp).1 (λz=>by cases z),(J4h _ _ (J3H p hp).1).trans (J3H p hp).2⟩,JD5⟩
 ·intro i x ev h1 h2
  refine e1_2 (JHV i x ev h1 h2) λv q1 q2=> ?_
  exact (az v q1 (J5p mz hr))
 ·intro i c h1
  obtain⟨q1,o,ov,q2,q3,q4⟩:=JHY i c h1
  exact (cD ((J4h c o q2).trans q1) o ov (J5G _ _ q2 (λz=>by cases z)) q3 (λev q=>let ⟨v,z1,z2⟩:=q4 ev q;(az v z1 (J44 mz hr))))
 ·intro c h1
  obtain⟨q1,o,es,ep,q2,q3,q5,q4⟩:=JHX c h1
  exact (bU ((J4h c o q2).trans q1) o es ep (J5G _ _ q2 (λz=>by cases z)) q3 q5 (λi x ev y1 y2=>let ⟨v,z1,z2⟩:=q4 i x ev y1 y2;(az v z1 (J44 mz hr))))
 ·intro i a so h1 h2
  rcases JBv i a so h1 h2 with q|q
  ·exact .inl q
  ·by_cases hd:so=.dead
   ·exact .inl hd
   ·refine e1_1 ((JCR i a so h1 h2).in hd) λo ho=> ?_
    exact .inr ((J4h a o ho).trans q)
 ·intro i a so h1 h2
  by_cases hd:so=.dead
  ·clear h2
   subst hd;exact .dead
  ·exact (JCR i a so h1 h2).mono mz hr (λb o y q=>J5G b o q (λz=>by cases z)) (λb o y q=>J4h b o q) (J3d h1 h2 hd)
theorem aA.temps {T':List EV}{vs':List Value}(H:aA w Γ X st T vs h N own ρ m) (q:EVs (aI JA N own) ρ T' vs'):aA w Γ X st T' vs' h N own ρ m:={ H with tmp:=q }
theorem aA.heap (H:aA w Γ X st T vs h N own ρ m) (F':Fr X.g X.L h' m) (W':News X.g X.L h' N):aA w Γ X st T vs h' N own ρ m:={ H with fr:=F',nw:=W' }
theorem aA.setSlot {i:Nat}{a:Addr}{so':SO}(H:aA w Γ X st T vs h N own ρ m) (e:Ext (some (.slot i)) N own N' own') (F':Fr X.g X.L h' m) (W':News X.g X.L h' N') (ha:ρ[i]? =some a) (hi:i<JK)
  (hs:SOR w N' own' (aI JA N' own') ρ i a so') (ho:so'=.dead∨own' a=.slot i):aA w Γ X { st with sl:=JDg i so' } T vs h' N' own' ρ m:=by
 have mz:=e.fz (F:=JA)
 have hr:∀(i:Nat) (a:Addr),ρ[i]? =some a->ρ[i]? =some a:=λy y h=>h
 refine⟨F',W',?_,?_,?_,?_,by simpa using J6r,?_,JHU,J5L mz hr,λp hp=>⟨J5G _ _ (J3H p hp).1 (λz=>by rw[(J3H p hp).2] at z;cases z),(J4h _ _ (J3H p hp).1).trans (J3H p hp).2⟩,JD5⟩
 ·intro i x ev h1 h2
  refine e1_2 (JHV i x ev h1 h2) λv q1 q2=> ?_
  exact (az v q1 (J5p mz hr))
 ·intro j c h1
  obtain⟨q1,o,ov,q2,q3,q4⟩:=JHY j c h1
  exact (cD ((J4h c o q2).trans q1) o ov (J5G _ _ q2 (by rw[q1];intro z;cases z)) q3 (λev q=>let ⟨v,z1,z2⟩:=q4 ev q;(az v z1 (J44 mz hr))))
 ·intro c h1
  obtain⟨q1,o,es,ep,q2,q3,q5,q4⟩:=JHX c h1
  exact (bU ((J4h c o q2).trans q1) o es ep (J5G _ _ q2 (by rw[q1];intro z;cases z)) q3 q5 (λi x ev y1 y2=>let ⟨v,z1,z2⟩:=q4 i x ev y1 y2;(az v z1 (J44 mz hr))))
 ·intro j b so h1 h2
  by_cases hj:i=j
  ·subst hj
   simp only [J1Z hi] at h2
   obtain rfl:=JT h2
   rw[ha] at h1;obtain rfl:=JT h1
   exact ho
  ·simp only [J2E hj] at h2
   rcases JBv j b so h1 h2 with q|q
   ·exact .inl q
   ·by_cases hd:so=.dead
    ·exact .inl hd
    ·refine e1_1 ((JCR j b so h1 h2).in hd) λo hb=> ?_
     exact .inr ((J4h b o hb).trans q)
 ·intro j b so h1 h2
  by_cases hj:i=j
  ·subst hj
   simp only [J1Z hi] at h2
   obtain rfl:=JT h2
   rw[ha] at h1;obtain rfl:=JT h1
   exact hs
  ·simp only [J2E hj] at h2
   by_cases hd:so=.dead
   ·subst hd;exact .dead
   ·exact (JCR j b so h1 h2).mono mz hr (λb o q1 q=>J5G b o q (by rw[q1];intro z;cases z;exact hj rfl)) (λb o y q=>J4h b o q) (J3d h1 h2 hd)
theorem aA.newSlot {a:Addr}{so':SO}(H:aA w Γ X st T vs h N own ρ m) (e:Ext none N own N' own') (F':Fr X.g X.L h' m) (W':News X.g X.L h' N')
  (hs:SOR w N' own' (aI JA N' own') (ρ++[a]) JK a so') (ho:own' a=.slot JK):aA w Γ X { st with sl:=J5++[so'] } T vs h' N' own' (ρ++[a]) m:=by
 have hr:∀(i:Nat) (b:Addr),ρ[i]? =some b->(ρ++[a])[i]? =some b:=e8 (J3q ρ [a])
 have mz:=e.fz (F:=JA)
 have old:∀(j:Nat) (b:Addr),(ρ++[a])[j]? =some b->j<JK->ρ[j]? =some b:=λj b h1 hj=>by
  rwa [J0W (J6r▸hj)] at h1
 have cases_:∀(j:Nat) (b:Addr) (so:SO),(ρ++[a])[j]? =some b->(J5++[so'])[j]? =some so->(ρ[j]? =some b/\J5[j]? =some so/\j≠JK)∨(j=JK/\b=a/\so=so'):=λj b so h1 h2=>by
  by_cases hj:j<JK
  ·refine .inl (i_aa (old j b h1 hj) ?_ (J0O hj))
   rwa [J0W hj] at h2
  ·by_cases hj':j=JK
   ·clear hj ho hr hs old
    subst hj'
    refine .inr (i_aa rfl ?_ ?_)
    ·rw[J6r,J0D (Jb _)] at h1;simpa using h1.symm
    ·rw[J0D (Jb _)] at h2;simpa using JHA
   ·exfalso
    rw[J0D (by exact z20 0x1110801931 hj)] at h2
    have:j - JK≠0:=by exact z30 0x100100110100000011000011080a3210b21a321933 hj hj' fS
    refine e1_1 (Nat.exists_eq_succ_of_ne_zero this) λk hk=> ?_
    rw[hk] at h2;simp at h2
 refine⟨F',W',?_,?_,?_,?_,by simp [J6r],?_,JHT (J3q ρ [a]),J5L mz hr,λp hp=>⟨J5G _ _ (J3H p hp).1 (λz=>by cases z),(J4h _ _ (J3H p hp).1).trans (J3H p hp).2⟩,JD5⟩
 ·intro i x ev h1 h2
  refine e1_2 (JHV i x ev h1 h2) λv q1 q2=> ?_
  exact (az v q1 (J5p mz hr))
 ·intro j c h1
  obtain⟨q1,o,ov,q2,q3,q4⟩:=JHY j c h1
  exact (cD ((J4h c o q2).trans q1) o ov (J5G _ _ q2 (by rw[q1];intro z;cases z)) q3 (λev q=>let ⟨v,z1,z2⟩:=q4 ev q;(az v z1 (J44 mz hr))))
 ·intro c h1
  obtain⟨q1,o,es,ep,q2,q3,q5,q4⟩:=JHX c h1
  exact (bU ((J4h c o q2).trans q1) o es ep (J5G _ _ q2 (by rw[q1];intro z;cases z)) q3 q5 (λi x ev y1 y2=>let ⟨v,z1,z2⟩:=q4 i x ev y1 y2;(az v z1 (J44 mz hr))))
 ·intro j b so h1 h2
  rcases cases_ j b so h1 h2 with⟨h1,h2,hj⟩|⟨rfl,rfl,rfl⟩
  ·rcases JBv j b so h1 h2 with q|q
   ·exact .inl q
   ·by_cases hd:so=.dead
    ·exact .inl hd
    ·refine e1_1 ((JCR j b so h1 h2).in hd) λo hb=> ?_
     exact .inr ((J4h b o hb).trans q)
  ·exact .inr ho
 ·intro j b so h1 h2
  rcases cases_ j b so h1 h2 with⟨h1,h2,hj⟩|⟨rfl,rfl,rfl⟩
  ·by_cases hd:so=.dead
   ·clear cases_ h1 h2 hj ho hr hs old
    subst hd;exact .dead
   ·exact (JCR j b so h1 h2).mono mz hr (λb o q1 q=>J5G b o q (by rw[q1];intro z;cases z)) (λb o y q=>J4h b o q) (J3d h1 h2 hd)
  ·exact hs
def put (N:Led) (d:Addr) (o:Obj):Led:=(d,o)::J8D λp=>p.1≠d
theorem bD {d:Addr}{o:Obj}:(d,o)∈put N d o:=JB
theorem b9 {d b:Addr}{o ob:Obj}(h:(b,ob)∈N) (hb:b≠d):(b,ob)∈put N d o:=Jk _ (List.mem_filter.mpr ⟨h,by simpa using hb⟩)
theorem Ext.put {d:Addr}{o':Obj}{lab:Lab}(hd:own d=lab) (hl:lab≠.fz):Ext (some lab) N own (put N d o') own:=
 ⟨λb o h q=>b9 h λz=>q (by rw[z,hd]),λy y y=>rfl,λz=>hl (JT z)⟩
theorem uv (W:News X.g X.L h N) {d:Addr}{o:Obj}(hd:(d,o)∈N):News X.g X.L h (put N d o):=λp hp=>by
 rcases Jf hp with rfl|hp
 ·exact W _ hd
 ·exact W _ (J25 hp).1
theorem ui {d:Addr}:∀p∈J8D (λp=>p.1≠d),p.1≠d:=λp hp=>by simpa using (J25 hp).2
def oU (own:Own) (a:Addr) (l:Lab):Own:=λb=>if b=a then l else own b
theorem br {a:Addr}{l:Lab}:oU own a l a=l:=JC rfl
theorem fW {a b:Addr}{l:Lab}(h:b≠a):oU own a l b=own b:=JL h
theorem Ext.cons {a:Addr}{o:Obj}{l:Lab}(hf:∀p∈N,p.1≠a):Ext none N own ((a,o)::N) (oU own a l):=
 ⟨λb ob h y=>Jk _ h,λb ob h=>fW (hf _ h),λz=>by cases z⟩
theorem Ext.trans {N'':Led}{own'':Own}(e:Ext none N own N' own') (e':Ext none N' own' N'' own''):Ext none N own N'' own'':=
 ⟨λb ob h y=>e'.keep b ob (J5G b ob h (λz=>by cases z)) (λz=>by cases z),λb ob h=>(e'.same b ob (J5G b ob h (λz=>by cases z))).trans (J4h b ob h),λz=>by cases z⟩
theorem dh (W:News X.g X.L h N):∀p∈N,p.1≠JM:=λp hp=>J0O (Jo (W p hp).1)
theorem aA.setLocal {i:Nat}{x:Str}{e:EV}{v:Value}(H:aA w Γ X st T vs h N own ρ m) (hnd:Γ.ln.Nodup) (hx:Γ.ln[i]? =some x) (he:EVR (aI JA N own) ρ e v)
  (F':Fr X.g X.L h' (λy=>if y=x then some v else m y)) (W':News X.g X.L h' N):aA w Γ X { st with lo:=st.lo.set i (some e) } T vs h' N own ρ (λy=>if y=x then some v else m y):=by
 refine { H with fr:=F',nw:=W',lo:= ?_ }
 intro j y ev h1 h2
 by_cases hj:i=j
 ·subst hj
  rw[hx] at h1;obtain rfl:=JT h1
  refine (az v (JC rfl) ?_)
  have hl:i<JG1:=by
   rcases J1Y i JG1 with q|q
   ·exact q
   ·rw[J0H (by simpa using q)] at h2;cases h2
  rw[J1Z hl] at h2
  obtain rfl:=JT (JT h2)
  exact he
 ·rw[J2E hj] at h2
  have hy:y≠x:=by
   clear F' h2
   rintro rfl
   have li:i<Γ.ln.length:=by
    rcases J1Y i Γ.ln.length with q|q
    ·exact q
    ·rw[J0H q] at hx;cases hx
   have lj:j<Γ.ln.length:=by
    refine J3a (J1Y j Γ.ln.length) (λq=> ?_) λq=> ?_
    ·exact q
    ·rw[J0H q] at h1;cases h1
   rw[Jy li] at hx
   rw[Jy lj] at h1
   have P:=J2r hnd
   have hq:=(JT hx).trans (JT h1).symm
   rcases Nat.lt_or_gt_of_ne hj with q|q
   ·exact P i j li lj q hq
   ·exact P j i lj li q hq.symm
  refine e1_2 (JHV j y ev h1 h2) λv' q1 q2=> ?_
  exact (az v' (by rw[JL hy];exact q1) q2)
theorem xm {l:List Str}(hnd:JDw) {i j:Nat}{x:Str}(h1:l[i]? =some x) (h2:l[j]? =some x):i=j:=by
 have li:i<JV:=by
  rcases J1Y i JV with q|q
  ·exact q
  ·rw[J0H q] at h1;cases h1
 have lj:j<JV:=by
  rcases J1Y j JV with q|q
  ·exact q
  ·rw[J0H q] at h2;cases h2
 rw[Jy li] at h1
 rw[Jy lj] at h2
 have P:=J2r hnd
 have hq:=(JT h1).trans (JT h2).symm
 rcases JCz i j with q|q|q
 ·exact absurd hq (P i j li lj q)
 ·exact q
 ·exact absurd hq.symm (P j i lj li q)
theorem iG {α:Type}{l:List α}{i j:Nat}{a b:α}(h:(l.set i a)[j]? =some b):(i=j/\b=a)∨(i≠j/\l[j]? =some b):=by
 by_cases hj:i=j
 ·subst hj
  have hl:i<JV:=by
   rcases J1Y i JV with q|q
   ·exact q
   ·rw[J0H (by simpa using q)] at h;cases h
  rw[J1Z hl] at h
  exact .inl ⟨rfl,(JT h).symm⟩
 ·rw[J2E hj] at h
  exact .inr ⟨hj,h⟩
theorem aA.setCell {i:Nat}{c:Addr}{o':Obj}{e:EV}{v:Value}(H:aA w Γ X st T vs h N own ρ m) (hc:X.ca[i]? =some c) (he:EVR (aI JA N own) ρ e v) (hd:o'.data=.cell (some v))
  (F':Fr X.g X.L h' m) (W':News X.g X.L h' (put N c o')):aA w Γ X { st with ce:=st.ce.set i (some e) } T vs h' (put N c o') own ρ m:=by
 have hoc:=(JHY i c hc).1
 have E:=J91 (N:=N) (own:=own) (d:=c) (o':=o') hoc (by intro z;cases z)
 have mz:=E.fz (F:=JA)
 have hr:∀(i:Nat) (a:Addr),ρ[i]? =some a->ρ[i]? =some a:=λy y h=>h
 refine⟨F',W',?_,?_,?_,?_,J6r,?_,JHU,J5L mz hr,λp hp=>⟨E.keep _ _ (J3H p hp).1 (λz=>by rw[(J3H p hp).2] at z;cases z),(E.same _ _ (J3H p hp).1).trans (J3H p hp).2⟩,JD5⟩
 ·intro i x ev h1 h2
  refine e1_2 (JHV i x ev h1 h2) λv q1 q2=> ?_
  exact (az v q1 (J5p mz hr))
 ·intro j c' h1
  obtain⟨q1,o,ov,q2,q3,q4⟩:=JHY j c' h1
  by_cases hj:i=j
  ·clear E W' q2 q4
   subst hj
   rw[hc] at h1;obtain rfl:=JT h1
   refine (cD q1 o' (some v) bD hd (λev q=> ?_))
   rcases iG q with⟨_,z⟩|⟨z,_⟩
   ·refine (JT z).symm▸?_
    exact (az v rfl (he.mono mz hr))
   ·exact absurd rfl z
  ·have hne:c'≠c:=by
    clear h1 mz q2 q4
    rintro rfl
    rw[hoc] at q1;cases q1;exact hj rfl
   refine (cD q1 o ov (b9 q2 hne) q3 (λev q=> ?_))
   rcases iG q with⟨z,_⟩|⟨_,z⟩
   ·exact absurd z hj
   ·obtain⟨v,z1,z2⟩:=q4 ev z;exact (az v z1 (J44 mz hr))
 ·intro c' h1
  obtain⟨q1,o,es,ep,q2,q3,q5,q4⟩:=JHX c' h1
  have hne:c'≠c:=by rintro rfl;rw[hoc] at q1;cases q1
  exact (bU q1 o es ep (b9 q2 hne) q3 q5 (λi x ev y1 y2=>let ⟨v,z1,z2⟩:=q4 i x ev y1 y2;(az v z1 (J44 mz hr))))
 ·intro i a so h1 h2
  exact JBv i a so h1 h2
 ·intro j a so h1 h2
  by_cases hd:so=.dead
  ·clear E W' h1 h2 hc mz
   subst hd;exact .dead
  ·exact (JCR j a so h1 h2).mono mz hr (λb o q1 q=>b9 q (by rintro rfl;rw[hoc] at q1;cases q1)) (λy y y y=>rfl) (J3d h1 h2 hd)
theorem aA.setComp {i:Nat}{c:Addr}{x:Str}{o':Obj}{es':Array J0g}{ep':Nat}{e:EV}{v:Value}(H:aA w Γ X st T vs h N own ρ m) (hc:X.Lc=some c) (hnd:Γ.kn.Nodup) (hx:Γ.kn[i]? =some x)
  (he:EVR (aI JA N own) ρ e v) {es:Array J0g}(hold:∃o ep,(c,o)∈N/\J2v=.dict es ep) (hd:o'.data=.dict es' ep') (hk:JBk es') (hn:∀y,J8R es' y=if y=x then some v else J8R es y)
  (F':Fr X.g X.L h' m) (W':News X.g X.L h' (put N c o')) (hW:News X.g X.L h N):aA w Γ X { st with co:=st.co.set i (some e) } T vs h' (put N c o') own ρ m:=by
 have hoc:=(JHX c hc).1
 have E:=J91 (N:=N) (own:=own) (d:=c) (o':=o') hoc (by intro z;cases z)
 have mz:=E.fz (F:=JA)
 have hr:∀(i:Nat) (a:Addr),ρ[i]? =some a->ρ[i]? =some a:=λk k h=>h
 refine⟨F',W',?_,?_,?_,?_,J6r,?_,JHU,J5L mz hr,λp hp=>⟨E.keep _ _ (J3H p hp).1 (λz=>by rw[(J3H p hp).2] at z;cases z),(E.same _ _ (J3H p hp).1).trans (J3H p hp).2⟩,JD5⟩
 ·intro i x ev h1 h2
  refine e1_2 (JHV i x ev h1 h2) λv q1 q2=> ?_
  exact (az v q1 (J5p mz hr))
 ·intro j c' h1
  obtain⟨q1,o,ov,q2,q3,q4⟩:=JHY j c' h1
  have hne:c'≠c:=by rintro rfl;rw[hoc] at q1;cases q1
  exact (cD q1 o ov (b9 q2 hne) q3 (λev q=>let ⟨v,z1,z2⟩:=q4 ev q;(az v z1 (J44 mz hr))))
 ·intro c' h1
  rw[hc] at h1;obtain rfl:=JT h1
  obtain⟨q1,o,es0,ep,q2,q3,q5,q4⟩:=JHX c hc
  refine e2_2 hold λo2a ep2 r1 r2=> ?_
  clear hold
  have ho:o=o2a:=JT ((hW _ q2).1.symm.trans (hW _ r1).1)
  clear E W' h1 hc r1
  subst ho
  rw[r2] at q3;cases q3
  refine (bU q1 o' es' ep' bD hd hk (λj y ev y1 y2=> ?_))
  rcases iG y2 with⟨z1,z2⟩|⟨z1,z2⟩
  ·clear q5 r2 y2
   subst z1
   refine (JT z2).symm▸?_
   rw[hx] at y1;obtain rfl:=JT y1
   exact (az v (by rw[hn,JC rfl]) (he.mono mz hr))
  ·refine e1_2 (q4 j y ev y1 z2) λv' z3 z4=> ?_
   refine (az v' ?_ (z4.mono mz hr))
   rw[hn,JL]
   ·exact z3
   ·clear hn mz
    rintro rfl
    exact z1 (xm hnd hx y1)
 ·intro i a so h1 h2
  exact JBv i a so h1 h2
 ·intro j a so h1 h2
  by_cases hd:so=.dead
  ·clear h2 hold
   subst hd;exact .dead
  ·exact (JCR j a so h1 h2).mono mz hr (λb o q1 q=>b9 q (by rintro rfl;rw[hoc] at q1;cases q1)) (λk k k k=>rfl) (J3d h1 h2 hd)
end
abbrev lR {α:Type}{β:Sort _}(b:β) (s:α->List α->β->β) (l:List α):β:=J4Z (motive:=λy=>β) b s l
def nth {α:Type}(l:List α) (n:Nat):Option α:=l.get?Internal n
inductive nh (K:Frag) (a:Addr) (k:Nat) (names:List Str) (dfl:List Value) (qual:Str) (body:List Stmt) (scope:Scope):Prop
 |mk oc od osl name params dV kV doc pm an cdv ct (at_:J2F a=some ⟨oc,od,.func (fnOf name qual params body scope dV kV doc pm an cdv ct),osl⟩) (code:JGG K cdv qual=true)
  (bind:∀(s:J1),JAC JG->∀ws:List Value,Jx=k->JEt s (fnOf name qual params body scope dV kV doc pm an cdv ct) ⟨ws,[]⟩ (JAc (ws++dfl)))
theorem nh.of {K:Frag}{a:Addr}{k:Nat}{names:List Str}{dfl:List Value}{qual:Str}{body:List Stmt}{scope:Scope}{oc od osl name params dV kV doc pm an cdv ct} (h1:J2F a=some ⟨oc,od,.func (fnOf name qual params body scope dV kV doc pm an cdv ct),osl⟩) (h2:JGG K cdv qual=true) (h3:∀(s:J1),JAC JG->∀ws:List Value,Jx=k->JEt s (fnOf name qual params body scope dV kV doc pm an cdv ct) ⟨ws,[]⟩ (JAc (ws++dfl))):nh K a k names dfl qual body scope:=⟨_,_,_,_,_,_,_,_,_,_,_,_,h1,h2,h3⟩
structure jr (K:Frag) (C:Addr) (attrs:List Nat):Prop where
 ga:J3z K (.ref C) "__getattribute__"=some (some (.builtin "object.__getattribute__"))
 gk:J3z K (.ref C) "__getattr__"=some none
 sa:J3z K (.ref C) "__setattr__"=some (some (.builtin "object.__setattr__"))
 over:plainOver K C=true
 hd:hasDictIn K C=true
 at_:∀k∈attrs,k<J1L/\JBI (ak k)=false/\J3z K (.ref C) (ak k)=some none
structure mO (K:Frag) (C:Addr) (name:Str) (f:Addr):Prop where
 find:J3z K (.ref C) name=some (some (.ref f))
 ty:JC4 K (.ref f)=some (.type "function")
def aB (i:Nat):Option Stmt:=nth PySem.Challenge.pw_np0206_01.main.body i
def mS (i j:Nat):Option Stmt:=match aB i with
 |some (.ClassDef _ _ _ b _ _ _ _ _ _ _)=>nth b j
 |_=>none
def ay (s:Option Stmt):List Stmt:=(s.bind JFE).elim [] (·.body)
def ao (s:Option Stmt):Scope:=(s.bind JFE).elim ⟨.module,[],false,false,[]⟩ (·.scope)
inductive Gn (K:Frag):Prop
 |mk nm q N bs sn sub ab col dd k0 k1 k2 k3 k5 (h:J2F 63=some (J2x nm q 63 N bs [.ref 38,.type "Exception",.type "BaseException",.type "object"] true sn sub ab col dd k0 k1 k2 k3 k5 "Exception.__new__"))
structure Gm (K:Frag):Prop where
 obj:Gn K
 init:J3z K (.ref 63) "__init__"=some (some (.ref 35))
 ty:JC4 K (.ref 35)=some (.type "function")
 sa:J3z K (.ref 63) "__setattr__"=some (some (.builtin "object.__setattr__"))
 why:J3z K (.ref 63) "why"=some none
 ei:findCls K (.type "Exception") (.type "type") "__init__"=some (.val (.builtin "Exception.__init__"))
structure kH where
 a:Addr
 k:Nat
 names:List Str
 dfl:List Value
 qual:Str
 at_:Option Stmt
abbrev gR (x:Str) (a:Addr):Str×Value:=(x,.ref a)
abbrev gI (x:Str) (i:Int) (t:Tok):Str×Value:=(x,.int i t)
abbrev mR (c:Addr) (x:Str) (a:Addr):Addr×Str×Addr:=(c,x,a)
def globT:List (Str×Value):=[gR "number_of" 70,gR "octets_of" 75,gR "text_octets" 80,gR "octets_text" 85,gR "padded" 191,gR "forms" 198,gR "fields_of" 205,gR "word_of" 212,gR "field_size" 219,gR "row_size" 224,gR "put_field" 231,gR "row_octets" 238,gR "field_at" 245,gR "row_at" 250,gR "parts_of" 255,gR "words_of" 312,gR "fletcher4" 324,gR "sum_of" 352,gR "room_of" 359,gR "sum_octets" 366,gR "block_octets" 373,gR "log_pointer" 444,gR "block_of" 451,gR "chain_of" 458,gR "rows_in" 465,gR "rows_of" 472,gR "pointers_behind" 477,gR "_law_next" 554,gR "_law_record" 561,gR "_law_size" 568,gR "_law_parts" 573,gR "_law_commit" 580,gR "_law_rows" 587,gR "_law_is_right" 594,gR "_law_are_behind" 599,gR "_law_is_refused" 606,gR "_law_broken" 613,gR "PoolFault" 38,gR "Corrupt" 51,gR "Misused" 63,gR "Sink" 130,gR "Cursor" 180,gR "Rules" 273,gR "Pointer" 302,gR "IntentLog" 433,gR "Heap" 543,gI "ROW_HEAD" 5 417,gI "MOST_TEXT" 255 419,gI "LOG" 11 500,gI "PLAIN" 0 502,gI "OFF" 0 504,gI "FLETCHER2" 1 506,gI "FLETCHER4" 2 508,gI "WORD" 4 610,gI "MASK" 4294967295 612,gI "LOG_HEAD" 20 691,gI "LOG_SUM" 16 693]
def bltT:List Str:=["len","range","sum","all","bytes","bytearray","enumerate","zip","tuple","list","sorted","isinstance","int","str","ord","chr","Exception"]
def keepT:List Addr:=[70,75,80,85,99,106,113,120,127,149,156,163,170,177,191,198,205,212,219,224,231,238,245,250,255,270,292,312,324,352,359,366,373,388,395,402,409,416,423,430,444,451,458,465,472,477,492,498,505,512,519,526,540,554,561,568,573,580,587,594,599,606,613,38,51,63,130,180,273,302,433,543]
def clsT:List (Addr×List Nat):=[(130,[0]),(180,[0,1]),(273,[2,3,4,5]),(302,[6,7,8,9,10,2,3,11,12,13,5]),(433,[14,15,16,17,18,19,20]),(543,[21,22,23,24,19])]
def methT:List (Addr×Str×Addr):=[mR 130 "__init__" 99,mR 130 "number" 106,mR 130 "put" 113,mR 130 "text" 120,mR 130 "whole" 127,mR 180 "__init__" 149,mR 180 "left" 156,mR 180 "take" 163,mR 180 "number" 170,mR 180 "text" 177,mR 273 "__init__" 270,mR 302 "__init__" 292,mR 433 "__init__" 388,mR 433 "allocated" 395,mR 433 "head" 402,mR 433 "put_block" 409,mR 433 "commit" 416,mR 433 "end" 423,mR 433 "begin_anew" 430,mR 543 "__init__" 492,mR 543 "write" 498,mR 543 "want" 505,mR 543 "read" 512,mR 543 "free" 519,mR 543 "live" 526,mR 543 "harm" 540]
def makeT:List Addr:=[130,180,273,302,433,543]
def fnT:List kH:=[
 ⟨35,2,["self","why"],[],"PoolFault.__init__",mS 2 0⟩,
 ⟨70,1,["octets"],[],"number_of",aB 6⟩,
 ⟨75,2,["number","size"],[],"octets_of",aB 7⟩,
 ⟨80,1,["text"],[],"text_octets",aB 8⟩,
 ⟨85,1,["octets"],[],"octets_text",aB 9⟩,
 ⟨99,1,["self"],[],"Sink.__init__",mS 10 0⟩,
 ⟨106,3,["self","number","size"],[],"Sink.number",mS 10 1⟩,
 ⟨113,2,["self","octets"],[],"Sink.put",mS 10 2⟩,
 ⟨120,2,["self","text"],[],"Sink.text",mS 10 3⟩,
 ⟨127,1,["self"],[],"Sink.whole",mS 10 4⟩,
 ⟨149,3,["self","octets","at"],[],"Cursor.__init__",mS 11 0⟩,
 ⟨149,2,["self","octets","at"],[.int 0 356],"Cursor.__init__",mS 11 0⟩,
 ⟨156,1,["self"],[],"Cursor.left",mS 11 1⟩,
 ⟨163,2,["self","many"],[],"Cursor.take",mS 11 2⟩,
 ⟨170,2,["self","size"],[],"Cursor.number",mS 11 3⟩,
 ⟨177,1,["self"],[],"Cursor.text",mS 11 4⟩,
 ⟨191,2,["octets","size"],[],"padded",aB 12⟩,
 ⟨198,0,[],[],"forms",aB 16⟩,
 ⟨205,1,["word"],[],"fields_of",aB 17⟩,
 ⟨212,1,["sort"],[],"word_of",aB 18⟩,
 ⟨219,2,["field","value"],[],"field_size",aB 19⟩,
 ⟨224,1,["record"],[],"row_size",aB 20⟩,
 ⟨231,3,["sink","field","value"],[],"put_field",aB 21⟩,
 ⟨238,2,["seq","record"],[],"row_octets",aB 22⟩,
 ⟨245,2,["cursor","field"],[],"field_at",aB 23⟩,
 ⟨250,1,["cursor"],[],"row_at",aB 24⟩,
 ⟨255,2,["record","most"],[],"parts_of",aB 25⟩,
 ⟨270,5,["self","packed","summed","copies","dedup"],[],"Rules.__init__",mS 33 0⟩,
 ⟨270,3,["self","packed","summed","copies","dedup"],[.int 1 526,.int 0 527],"Rules.__init__",mS 33 0⟩,
 ⟨292,12,["self","dvas","kind","level","lsize","psize","packed","summed","birth","fill","sum_now","dedup"],[],"Pointer.__init__",mS 34 0⟩,
 ⟨312,1,["octets"],[],"words_of",aB 39⟩,
 ⟨324,1,["octets"],[],"fletcher4",aB 41⟩,
 ⟨352,2,["which","octets"],[],"sum_of",aB 45⟩,
 ⟨359,1,["size"],[],"room_of",aB 49⟩,
 ⟨366,1,["body"],[],"sum_octets",aB 50⟩,
 ⟨373,5,["chain","number","rows","following","size"],[],"block_octets",aB 51⟩,
 ⟨388,6,["self","io","size","chain","txg","seq"],[],"IntentLog.__init__",mS 52 0⟩,
 ⟨388,5,["self","io","size","chain","txg","seq"],[.int 0 739],"IntentLog.__init__",mS 52 0⟩,
 ⟨395,2,["self","txg"],[],"IntentLog.allocated",mS 52 1⟩,
 ⟨402,1,["self"],[],"IntentLog.head",mS 52 2⟩,
 ⟨409,3,["self","rows","txg"],[],"IntentLog.put_block",mS 52 3⟩,
 ⟨416,3,["self","records","txg"],[],"IntentLog.commit",mS 52 4⟩,
 ⟨423,2,["self","txg"],[],"IntentLog.end",mS 52 5⟩,
 ⟨430,3,["self","chain","txg"],[],"IntentLog.begin_anew",mS 52 6⟩,
 ⟨444,4,["place","size","birth","chain"],[],"log_pointer",aB 54⟩,
 ⟨451,3,["octets","chain","number"],[],"block_of",aB 55⟩,
 ⟨458,2,["io","head"],[],"chain_of",aB 56⟩,
 ⟨465,1,["octets"],[],"rows_in",aB 57⟩,
 ⟨472,2,["io","head"],[],"rows_of",aB 58⟩,
 ⟨477,3,["io","head","txg"],[],"pointers_behind",aB 59⟩,
 ⟨492,2,["self","sector"],[],"Heap.__init__",mS 61 0⟩,
 ⟨492,1,["self","sector"],[.int 16 903],"Heap.__init__",mS 61 0⟩,
 ⟨498,8,["self","octets","kind","level","rules","txg","fill","former"],[],"Heap.write",mS 61 1⟩,
 ⟨498,7,["self","octets","kind","level","rules","txg","fill","former"],[.none],"Heap.write",mS 61 1⟩,
 ⟨505,2,["self","pointer"],[],"Heap.want",mS 61 2⟩,
 ⟨512,2,["self","pointer"],[],"Heap.read",mS 61 3⟩,
 ⟨519,3,["self","pointer","txg"],[],"Heap.free",mS 61 4⟩,
 ⟨526,1,["self"],[],"Heap.live",mS 61 5⟩,
 ⟨540,3,["self","pointer","octets"],[],"Heap.harm",mS 61 7⟩,
 ⟨554,1,["tape"],[],"_law_next",aB 63⟩,
 ⟨561,1,["tape"],[],"_law_record",aB 64⟩,
 ⟨568,1,["record"],[],"_law_size",aB 65⟩,
 ⟨573,2,["record","room"],[],"_law_parts",aB 66⟩,
 ⟨580,4,["state","records","room","txg"],[],"_law_commit",aB 67⟩,
 ⟨587,1,["blocks"],[],"_law_rows",aB 68⟩,
 ⟨594,3,["log","io","state"],[],"_law_is_right",aB 69⟩,
 ⟨599,4,["log","io","state","txg"],[],"_law_are_behind",aB 70⟩,
 ⟨606,1,["call"],[],"_law_is_refused",aB 71⟩,
 ⟨613,4,["tape","io","log","state"],[],"_law_broken",aB 72⟩]
structure KOk (w:World) (K:Frag):Prop where
 glob:∀p∈globT,nsIn K J0q p.1=some (some p.2)
 blt:∀x∈bltT,nsIn K J0q x=some none
 keep:∀a∈keepT,keepIn K (.ref a)=true
 cls:∀p∈clsT,jr K p.1 p.2
 meth:∀p∈methT,mO K p.1 p.2.1 p.2.2
 make:∀a∈makeT,JDs K a=true
 exc:Gm K
 fn:∀r∈fnT,nh K r.a r.k JGt r.dfl JDm (ay JCe) (ao JCe)
theorem aZ {α:Type}(l:List α) (n:Nat):nth l n=l[n]? :=rfl
theorem bd {α:Type}{l:List α}{i:Nat}{a:α}(h:nth l i=some a):a∈l:=J01 ((aZ l i).symm.trans h)
theorem vY (i:Nat) {x:Str}{v:Value}(h:nth globT i=some (x,v)):∀w K,KOk w K->nsIn K J0q x=some (some v):=λy y k=>k.glob _ (bd h)
theorem Ez (i:Nat) {x:Str}(h:nth bltT i=some x):∀w K,KOk w K->nsIn K J0q x=some none:=λy y k=>k.blt _ (bd h)
theorem sk (i:Nat) {a:Addr}(h:nth keepT i=some a):∀w K,KOk w K->keepIn K (.ref a)=true:=λy y k=>k.keep _ (bd h)
theorem CJ (i:Nat) {a:Addr}{l:List Nat}(h:nth clsT i=some (a,l)):∀w K,KOk w K->jr K a l:=λy y k=>k.cls _ (bd h)
theorem d6 (i:Nat) {a f:Addr}{x:Str}(h:nth methT i=some (a,x,f)):∀w K,KOk w K->mO K a x f:=λy y k=>k.meth _ (bd h)
theorem eI (i:Nat) {a:Addr}(h:nth makeT i=some a):∀w K,KOk w K->JDs K a=true:=λy y k=>k.make _ (bd h)
theorem kFn (i:Nat) {a:Addr}{k:Nat}{names:List Str}{dfl:List Value}{qual:Str}{p:Option Stmt}(h:nth fnT i=some ⟨a,k,names,dfl,qual,p⟩):∀w K,KOk w K->nh K a k names dfl qual (ay p) (ao p):=λy y q=>q.fn _ (bd h)
inductive Gi (h:Heap):Prop
 |mk (p:J3Z) (mg:Str->Option Value) (mb:Str->Option Value) (loose:List Str) (h:J8j p loose mg mb h)
inductive Dd (A:J7) (g:Heap) (L:Addr):Prop
 |mk (A0a:J7) (base:Heap) (outer:List Env) (fenv:Env) (b:Below A0a base outer g) (f:J3w=some (fenv::outer)) (l:fenv.frame=some L) (k:fenv.scope.kind=.function)
structure BOk (w:World) (X:Fx):Prop where
 KI:JCL X.g
 kok:KOk w X.K
 top:Gi X.g
 fz:∀a o,JA a o->J1s a=some o
structure AOk (A:J7) (X:Fx) (n:Nat):Prop where
 below:Dd A X.g X.L
 dep:J6u+3*n<900
 un:J4u+20*n+300<cLine
 hh:J3v=none
structure NmOk (Γ:Nm):Prop where
 kd:∀p∈Γ.nm,Γ.nm.lookup p.1=some p.2
 nodbg:∀p∈Γ.nm,(p.1==("__debug__":Str))=false
 lnd:Γ.ln.Nodup
 knd:Γ.kn.Nodup
structure Cx (w:World) (A:J7) (env:Env) (Γ:Nm) (X:Fx) (n:Nat):Prop extends BOk w X,AOk A X n,NmOk Γ where
 kind:J1O=.function
 nms:env.scope.names=Γ.nm
 glob:J4g=J0q
 blt:JAn=J6I
 fr:J3M=some X.L
 loc:Γ.comp=false->J9X=X.L
 cloc:Γ.comp=true->∃c,X.Lc=some c/\J9X=c
 cl:∀(i:Nat) (x:Str),Γ.cn[i]? =some x->(x,J1S)∈Γ.nm->∃c,X.ca[i]? =some c/\J1A x=some c
 nolc:Γ.comp=false->X.Lc=none
 topo:Γ.top=true->J3w=some [env]/\JFZ="law.<locals>."/\∃c P mg bm ob,env.code=.ref c/\CodeHd X.g c P/\X.ρ0=[P]/\X.g.Ns J0q mg/\mg "__builtins__"=some (.ref bm)/\bm≠J6I/\J1s bm=some ob/\ob.cls=.type "module"/\ob.dict=some J6I/\ob.data=.plain
theorem Cx.kOf {w:World}{A:J7}{env:Env}{Γ:Nm}{X:Fx}{n:Nat}(C:Cx w A env Γ X n) {x:Str}{k:J1T}(h:(x,k)∈Γ.nm):J34 x=some k:=by
 show JAI x=some k
 rw[C.nms];exact C.kd _ h
abbrev VC (α:Type):=St->(α->St->Prop)->Prop
def upd {α:Type}(l:List α) (n:Nat) (b:α):List α:=l.set n b
theorem dX {α:Type}(l:List α) (n:Nat) (b:α):upd l n b=l.set n b:=rfl
def Sem (Γ:Nm) (n:Nat) (e:Expr) (vc:VC EV):Prop:=
 ∀{{w:World}} {{A:J7}} {{env:Env}} {{X:Fx}},Cx w A env Γ X n->∀{{st:St}} {{T:List EV}} {{vs:List Value}} {{s:J1}} {{h:Heap}} {{t:Nat}} {{Q:Value->J1->Prop}} {{E:Value->J1->Prop}} {{P:EV->St->Prop}},
  Rel w Γ X st T vs h->vc st P->(∀ev v st' h' t',Rel w Γ X st' (ev::T) (v::vs) h'->P ev st'->Q v (At s h' t'))->ae (model prog0 w) A (eval e env) Q E (At s h t)
def gj (Γ:Nm) (n:Nat) (es:List Expr) (vc:VC (List EV)):Prop:=
 ∀{{w:World}} {{A:J7}} {{env:Env}} {{X:Fx}},Cx w A env Γ X n->∀{{pos:Pos}} {{st:St}} {{T:List EV}} {{vs:List Value}} {{s:J1}} {{h:Heap}} {{t:Nat}} {{Q:List Value->J1->Prop}} {{E:Value->J1->Prop}} {{P:List EV->St->Prop}},
  Rel w Γ X st T vs h->vc st P->(∀evs ws st' h' t',JCm=Jx->Rel w Γ X st' (evs++T) (ws++vs) h'->P evs st'->Q ws (At s h' t'))->ae (model prog0 w) A (J3T (J00 pos (Je es env))) Q E (At s h t)
def eV (Γ:Nm) (n:Nat) (e:Expr) (vc:VC Bool):Prop:=
 ∀{{w:World}} {{A:J7}} {{env:Env}} {{X:Fx}},Cx w A env Γ X n->∀{{st:St}} {{T:List EV}} {{vs:List Value}} {{s:J1}} {{h:Heap}} {{t:Nat}} {{Q:Bool->J1->Prop}} {{E:Value->J1->Prop}} {{P:Bool->St->Prop}},
  Rel w Γ X st T vs h->vc st P->(∀b st' h' t',Rel w Γ X st' T vs h'->P b st'->Q b (At s h' t'))->ae (model prog0 w) A (J0N e env (eval e env)) Q E (At s h t)
inductive Fl where
 |next
 |brk
 |cont
 |ret (e:EV)
inductive FlQ (w:World) (Γ:Nm) (X:Fx) (T:List EV) (vs:List Value) (s:J1) (P:Fl->St->Prop) (f:Flow) (s':J1):Prop
 |mk (st':St) (h':Heap) (t':Nat) (e:s'=At s h' t') (q:match f with
  | .next=>Rel w Γ X st' T vs h'/\P .next st'
  | .brk=>Rel w Γ X st' T vs h'/\P .brk st'
  | .cont=>Rel w Γ X st' T vs h'/\P .cont st'
  | .ret v=>∃ev,Rel w Γ X st' (ev::T) (v::vs) h'/\P (.ret ev) st')
def jc (Γ:Nm) (n:Nat) (c:Stmt) (vc:VC Fl):Prop:=
 ∀{{w:World}} {{A:J7}} {{env:Env}} {{X:Fx}},Cx w A env Γ X n->∀{{st:St}} {{T:List EV}} {{vs:List Value}} {{s:J1}} {{h:Heap}} {{t:Nat}} {{E:Value->J1->Prop}} {{P:Fl->St->Prop}},
  Rel w Γ X st T vs h->vc st P->ae (model prog0 w) A (exec c env) (FlQ w Γ X T vs s P) E (At s h t)
def mK (Γ:Nm) (n:Nat) (b:List Stmt) (vc:VC Fl):Prop:=
 ∀{{w:World}} {{A:J7}} {{env:Env}} {{X:Fx}},Cx w A env Γ X n->∀{{st:St}} {{T:List EV}} {{vs:List Value}} {{s:J1}} {{h:Heap}} {{t:Nat}} {{E:Value->J1->Prop}} {{P:Fl->St->Prop}},
  Rel w Γ X st T vs h->vc st P->ae (model prog0 w) A (execs b env) (FlQ w Γ X T vs s P) E (At s h t)
def Op1 (n:Nat) (tree:Value->J1M Value) (prim:EV->VC EV):Prop:=
 ∀{{w:World}} {{A:J7}} {{Γ:Nm}} {{X:Fx}},BOk w X->AOk A X n->∀{{st:St}} {{T:List EV}} {{vs:List Value}} {{ea:EV}} {{va:Value}} {{s:J1}} {{h:Heap}} {{t:Nat}} {{Q:Value->J1->Prop}} {{E:Value->J1->Prop}} {{P:EV->St->Prop}},
  Rel w Γ X st (ea::T) (va::vs) h->prim ea st P->(∀ev v st' h' t',Rel w Γ X st' (ev::T) (v::vs) h'->P ev st'->Q v (At s h' t'))->ae (model prog0 w) A (tree va) Q E (At s h t)
def Op2 (n:Nat) (tree:Value->Value->J1M Value) (prim:EV->EV->VC EV):Prop:=
 ∀{{w:World}} {{A:J7}} {{Γ:Nm}} {{X:Fx}},BOk w X->AOk A X n->∀{{st:St}} {{T:List EV}} {{vs:List Value}} {{ea eb:EV}} {{va vb:Value}} {{s:J1}} {{h:Heap}} {{t:Nat}} {{Q:Value->J1->Prop}} {{E:Value->J1->Prop}} {{P:EV->St->Prop}},
  Rel w Γ X st (eb::ea::T) (vb::va::vs) h->prim ea eb st P->(∀ev v st' h' t',Rel w Γ X st' (ev::T) (v::vs) h'->P ev st'->Q v (At s h' t'))->ae (model prog0 w) A (tree va vb) Q E (At s h t)
section
variable {w:World}{Γ:Nm}{X:Fx}{st:St}{T:List EV}{vs:List Value}{h:Heap}
theorem Rel.push (H:Rel w Γ X st T vs h) {e:EV}{v:Value}(q:∀fz ρ,EVR fz ρ e v):Rel w Γ X st (e::T) (v::vs) h:=by
 refine J9 H λN own ρ m R=> ?_
 exact⟨N,own,ρ,m,Jj (.cons (q _ _) J62)⟩
theorem Rel.pop {e:EV}{v:Value}(H:Rel w Γ X st (e::T) (v::vs) h):Rel w Γ X st T vs h:=by
 refine J9 H λN own ρ m R=> ?_
 obtain⟨h,hs⟩:=Jg
 exact⟨N,own,ρ,m,Jj hs⟩
theorem Rel.turn1 {e e':EV}{v v':Value}(H:Rel w Γ X st (e::T) (v::vs) h) (q:∀fz ρ,EVR fz ρ e v->EVR fz ρ e' v'):Rel w Γ X st (e'::T) (v'::vs) h:=by
 refine J9 H λN own ρ m R=> ?_
 obtain⟨h,hs⟩:=Jg
 exact⟨N,own,ρ,m,Jj (.cons (q _ _ h) hs)⟩
theorem Rel.turn2 {a b e':EV}{va vb v':Value}(H:Rel w Γ X st (b::a::T) (vb::va::vs) h) (q:∀fz ρ,EVR fz ρ a va->EVR fz ρ b vb->EVR fz ρ e' v'):Rel w Γ X st (e'::T) (v'::vs) h:=by
 refine J9 H λN own ρ m R=> ?_
 refine e0_3 J14 λh h' hs=> ?_
 exact⟨N,own,ρ,m,Jj (.cons (q _ _ h' h) hs)⟩
theorem Rel.top1 {e:EV}{v:Value}(H:Rel w Γ X st (e::T) (v::vs) h):∃fz ρ,EVR fz ρ e v:=by
 refine J9 H λN own ρ m R=> ?_
 obtain⟨h,hs⟩:=Jg
 exact (ic _ _ h)
theorem Rel.top2 {a b:EV}{va vb:Value}(H:Rel w Γ X st (b::a::T) (vb::va::vs) h):∃fz ρ,EVR fz ρ a va/\EVR fz ρ b vb:=by
 refine J9 H λN own ρ m R=> ?_
 refine e0_3 J14 λh h' hs=> ?_
 exact (eJ _ _ h' h)
end
section
variable {Γ:Nm}{n:Nat}
set_option tactic.hygienic true in
theorem oQ {x:Str}{pos:Pos}{i j:Nat}(hm:nth Γ.nm j=some (x,J4B)) (hc:Γ.comp=false) (hi:nth Γ.ln i=some x):
  Sem Γ n (.Name x pos) (λst P=>aj (nth JDh i) λo=>aj o λe=>P e st):=by
 intro w A env X C st T vs s h t Q E P H hv hQ
 refine J9 H λN own ρ m R=> ?_
 rw[aZ] at hi
 refine e1_2 (ah hv) λo he hv=> ?_
 refine e1_2 (ah hv) λe er hv=> ?_
 rw[aZ,er] at he
 refine e1_2 (R.lo i x e hi he) λv q1 q2=> ?_
 refine av (J9R (J6K J5h (JB8 (bd hm)) (m:=m) ?_ q1 ?_) (JBy _ (bd hm)))
 ·rw[C.loc hc];exact J8l
 ·exact hQ e v st h t ⟨N,own,ρ,m,Jj (.cons q2 J62)⟩ hv
theorem Cz {o:Obj}{es:Array J0g}{ep:Nat}{h:Heap}{c:Addr}(h1:JN c=some o) (h2:J2v=.dict es ep) (h3:JBk es):h.Ns c (J8R es):=(f4 o es ep h1 h2 h3 (λy=>rfl))
set_option tactic.hygienic true in
theorem tS {x:Str}{pos:Pos}{i j:Nat}(hm:nth Γ.nm j=some (x,J4B)) (hc:Γ.comp=true) (hi:nth Γ.kn i=some x):
  Sem Γ n (.Name x pos) (λst P=>aj (nth JDi i) λo=>aj o λe=>P e st):=by
 intro w A env X C st T vs s h t Q E P H hv hQ
 refine J9 H λN own ρ m R=> ?_
 rw[aZ] at hi
 refine e1_2 (ah hv) λo he hv=> ?_
 refine e1_2 (ah hv) λe er hv=> ?_
 rw[aZ,er] at he
 refine e1_2 (C.cloc hc) λc hc1 hc2=> ?_
 obtain⟨q1,o,es,ep,q2,q3,q5,q4⟩:=R.co c hc1
 refine e1_2 (q4 i x e hi he) λv z1 z2=> ?_
 refine av (J9R (J6K J5h (JB8 (bd hm)) (m:=J8R es) ?_ z1 ?_) (JBy _ (bd hm)))
 ·rw[hc2];exact Cz (JH _ q2).1 q3 q5
 ·exact hQ e v st h t ⟨N,own,ρ,m,Jj (.cons z2 J62)⟩ hv
set_option tactic.hygienic true in
theorem yL {x:Str}{pos:Pos}{i j:Nat}(hm:nth Γ.nm j=some (x,J1S)) (hi:nth Γ.cn i=some x):
  Sem Γ n (.Name x pos) (λst P=>aj (nth JAV i) λo=>aj o λe=>P e st):=by
 intro w A env X C st T vs s h t Q E P H hv hQ
 refine J9 H λN own ρ m R=> ?_
 rw[aZ] at hi
 refine e1_2 (ah hv) λo he hv=> ?_
 refine e1_2 (ah hv) λe er hv=> ?_
 rw[aZ,er] at he
 refine e1_2 (C.cl i x hi (bd hm)) λc hc1 hc2=> ?_
 obtain⟨q1,o,ov,q2,q3,q4⟩:=R.ce i c hc1
 refine e1_2 (q4 e he) λv z1 z2=> ?_
 clear q4
 subst z1
 refine av (J9R (wpAny_loadName_cell J5h (JB8 (bd hm)) hc2 (az o ((JH _ q2).1) q3) ?_) (JBy _ (bd hm)))
 ·exact hQ e v st h t ⟨N,own,ρ,m,Jj (.cons z2 J62)⟩ hv
theorem lD {x:Str}{pos:Pos}{v:Value}{j:Nat}(hm:nth Γ.nm j=some (x,J0s)) (hg:∀w K,KOk w K->nsIn K J0q x=some (some v)):
  Sem Γ n (.Name x pos) (λst P=>P (.pv (.val v)) st):=by
 intro w A env X C st T vs s h t Q E P H hv hQ
 obtain⟨p,mg,mb,loose,TR⟩:=JHc
 refine J9 H λN own ρ m R=> ?_
 refine av (J2D J5h (JB8 (bd hm)) (J5A (mg:=mg) ?_ (mg_of C.KI TR.g (hg w _ JEq)) ?_) (JBy _ (bd hm)))
 ·rw[JB9];exact JCr J0v
 ·exact hQ _ v st h t (J9k λy y=>.pv (.val v)) hv
theorem pz {x:Str}{pos:Pos}{v:Value}{j:Nat}(hm:nth Γ.nm j=some (x,J0s)) (hg:∀w K,KOk w K->nsIn K J0q x=some none) (hb:JGJ x=some v) (hne:x≠"__name__"):
  Sem Γ n (.Name x pos) (λst P=>P (.pv (.val v)) st):=by
 intro w A env X C st T vs s h t Q E P H hv hQ
 obtain⟨p,mg,mb,loose,TR⟩:=JHc
 refine J9 H λN own ρ m R=> ?_
 refine av (J2D J5h (JB8 (bd hm)) (JCB (mg:=mg) (mb:=mb) ?_ (mg_none_of C.KI TR.g (hg w _ JEq)) ?_ ((TR.builtins x hne).trans hb) ?_) (JBy _ (bd hm)))
 ·rw[JB9];exact JCr J0v
 ·rw[C.blt];exact TR.b.keeps J0v
 ·exact hQ _ v st h t (J9k λy y=>.pv (.val v)) hv
theorem py {i:Int}{k:Nat}{pos:Pos}:Sem Γ n (.Constant (.int i) k pos) (λst P=>P (.pv (.int i)) st):=by
 intro w A env X C st T vs s h t Q E P H hv hQ
 exact av (wpAny_Constant_int (hQ _ _ _ _ _ (J9k λy y=>.pv (.int i _)) hv))
theorem BZ {x:Str}{k:Nat}{pos:Pos}:Sem Γ n (.Constant (.str x) k pos) (λst P=>P (.pv (.str x)) st):=by
 intro w A env X C st T vs s h t Q E P H hv hQ
 exact av (J3u (hQ _ _ _ _ _ (J9k λy y=>.pv (.str x _)) hv))
theorem wP {x:List UInt8}{k:Nat}{pos:Pos}:Sem Γ n (.Constant (.bytes x) k pos) (λst P=>P (.pv (.bytes x)) st):=by
 intro w A env X C st T vs s h t Q E P H hv hQ
 exact av (Constant_bytes (hQ _ _ _ _ _ (J9k λy y=>.pv (.bytes (by simp) _)) hv))
theorem yM {b:Bool}{k:Nat}{pos:Pos}:Sem Γ n (.Constant (.bool b) k pos) (λst P=>P (.pv (.bool b)) st):=by
 intro w A env X C st T vs s h t Q E P H hv hQ
 exact av (JFu (hQ _ _ _ _ _ (J9k λy y=>.pv (.bool b)) hv))
theorem yF {k:Nat}{pos:Pos}:Sem Γ n (.Constant .none k pos) (λst P=>P (.pv .none) st):=by
 intro w A env X C st T vs s h t Q E P H hv hQ
 exact av (Constant_none (hQ _ _ _ _ _ (J9k λy y=>.pv .none) hv))
theorem wQ {l r:Expr}{op:JFk}{pos:Pos}{va vb:VC EV}{prim:EV->EV->VC EV}(ha:Sem Γ n l va) (hb:Sem Γ n r vb) (hp:Op2 n (J3Q op) prim):
  Sem Γ n (.BinOp l op r pos) (λst P=>va st λa st1=>vb st1 λb st2=>prim a b st2 P):=by
 intro w A env X C st T vs s h t Q E P H hv hQ
 refine rc (ha C H hv λea va st1 h1 t1 H1 hv1=> ?_)
 refine hb C H1 hv1 λeb vb st2 h2 t2 H2 hv2=> ?_
 exact hp J1q J54 H2 hv2 hQ
theorem rl:gj Γ n [] (λst P=>P [] st):=by
 intro w A env X C pos st T vs s h t Q E P H hv hQ
 exact dI (hQ [] [] st h t rfl H hv)
theorem EVs.len {fz:FzP}{ρ:List Addr}{es:List EV}{ws:List Value}(h:EVs fz ρ es ws):J1H=Jx:=by
 induction h with
 |nil=>rfl
 |cons _ _ ih=>simp [ih]
theorem EVs.split {fz:FzP}{ρ:List Addr}{es:List EV}:∀{ws:List Value}{T:List EV}{vs:List Value},J1H=Jx->EVs fz ρ (es++T) (ws++vs)->EVs fz ρ es ws/\EVs fz ρ T vs:=by
 induction es with
 |nil=>
  intro ws T vs hl h
  cases ws with
  |nil=>exact⟨.nil,h⟩
  |cons v ws=>cases hl
 |cons e es ih=>
  intro ws T vs hl h
  cases ws with
  |nil=>cases hl
  |cons v ws=>
   refine e0_2 J7x λh hs=> ?_
   refine e0_2 (ih (J3b hl) hs) λh1 h2=> ?_
   exact⟨.cons h h1,h2⟩
theorem EVs.append {fz:FzP}{ρ:List Addr}{es:List EV}{ws:List Value}{T:List EV}{vs:List Value}(h:EVs fz ρ es ws) (h':EVs fz ρ T vs):EVs fz ρ (es++T) (ws++vs):=by
 induction h with
 |nil=>exact h'
 |cons h _ ih=>exact .cons h ih
theorem wW {e:Expr}{rest:List Expr}{va:VC EV}{vb:VC (List EV)}(ha:Sem Γ n e va) (hb:gj Γ n rest vb) (hs:∀env,Je (e::rest) env=(false,eval e env)::Je rest env):
  gj Γ n (e::rest) (λst P=>va st λa st1=>vb st1 λas st2=>P (a::as) st2):=by
 intro w A env X C pos st T vs s h t Q E P H hv hQ
 refine eZ (ha C H hv λea va st1 h1 t1 H1 hv1=> ?_) (hs env)
 refine hb C H1 hv1 λes ws st2 h2 t2 hl H2 hv2=> ?_
 refine hQ (ea::es) (va::ws) st2 h2 t2 (by simp [hl]) ?_ hv2
 refine J9 H2 λN own ρ m R=> ?_
 refine e0_2 (J1N hl J62) λq1 q2=> ?_
 refine e0_2 q2.inv λz zs=> ?_
 exact⟨N,own,ρ,m,Jj (.cons z (J5q zs))⟩
end
def ifB (b:Bool) (p q:Prop):Prop:=cond b p q
section
variable {w:World}{Γ:Nm}{X:Fx}{st:St}{T:List EV}{vs:List Value}{h h':Heap}{N:Led}{own:Own}{ρ:List Addr}{m:Str->Option Value}
theorem aA.same (H:aA w Γ X st T vs h N own ρ m) {d:Addr}{o o':Obj}(hm:(d,o)∈N) (hs:J0m d h h') (ho:JW d=some o'):Fr X.g X.L h' m/\News X.g X.L h' (put N d o'):=by
 have D:=JD4 _ hm
 refine⟨⟨H.fr.ns.sameBut hs (J2k D.2.1),λb ob e=>(hs.2 b (λq=> ?_)).trans (JEl b ob e),H.fr.above⟩,λp hp=> ?_⟩
 ·have:=D.2.2;rw[<- q,e] at this;cases this
 ·rcases Jf hp with rfl|hp
  ·exact⟨ho,D.2⟩
  ·have q:=J25 hp
   exact⟨(hs.2 p.1 (ui p hp)).trans (JD4 p q.1).1,(JD4 p q.1).2⟩
end
def OpC (n:Nat) (op:CmpOp) (prim:EV->EV->VC Bool):Prop:=
 ∀{{w:World}} {{A:J7}} {{Γ:Nm}} {{X:Fx}},BOk w X->AOk A X n->∀{{st:St}} {{T:List EV}} {{vs:List Value}} {{ea eb:EV}} {{va vb:Value}} {{s:J1}} {{h:Heap}} {{t:Nat}} {{Q:Value->J1->Prop}} {{E:Value->J1->Prop}} {{P:Bool->St->Prop}},
  Rel w Γ X st (eb::ea::T) (vb::va::vs) h->prim ea eb st P->(∀b st' h' t',Rel w Γ X st' (eb::ea::T) (vb::va::vs) h'->P b st'->Q (.bool b) (At s h' t'))->ae (model prog0 w) A (compareOp op va vb) Q E (At s h t)
def OpT (n:Nat) (prim:EV->VC Bool):Prop:=
 ∀{{w:World}} {{A:J7}} {{Γ:Nm}} {{X:Fx}},BOk w X->AOk A X n->∀{{st:St}} {{T:List EV}} {{vs:List Value}} {{ea:EV}} {{va:Value}} {{s:J1}} {{h:Heap}} {{t:Nat}} {{Q:Bool->J1->Prop}} {{E:Value->J1->Prop}} {{P:Bool->St->Prop}},
  Rel w Γ X st (ea::T) (va::vs) h->prim ea st P->(∀b st' h' t',Rel w Γ X st' T vs h'->P b st'->Q b (At s h' t'))->ae (model prog0 w) A (truthy va) Q E (At s h t)
section
variable {Γ:Nm}{n:Nat}
theorem yZ {l r:Expr}{op:CmpOp}{pos:Pos}{va vb:VC EV}{prim:EV->EV->VC Bool}(ha:Sem Γ n l va) (hb:Sem Γ n r vb) (hp:OpC n op prim) (hbi:J76 op r=false):
  eV Γ n (.Compare l [op] [r] pos) (λst P=>va st λa st1=>vb st1 λb st2=>prim a b st2 P):=by
 intro w A env X C st T vs s h t Q E P H hv hQ
 refine fF (ha C H hv λea va st1 h1 t1 H1 hv1=> ?_) hbi
 refine hb C H1 hv1 λeb vb st2 h2 t2 H2 hv2=> ?_
 exact hp J1q J54 H2 hv2 λb st' h' t' H' hP=>bx (hQ b st' h' t' JD7 hP)
theorem B2 {l r:Expr}{op:CmpOp}{pos:Pos}{va vb:VC EV}{prim:EV->EV->VC Bool}(ha:Sem Γ n l va) (hb:Sem Γ n r vb) (hp:OpC n op prim) (hbi:J76 op r=false):
  Sem Γ n (.Compare l [op] [r] pos) (λst P=>va st λa st1=>vb st1 λb st2=>prim a b st2 λc st3=>P (.pv (.bool c)) st3):=by
 intro w A env X C st T vs s h t Q E P H hv hQ
 refine lx (ha C H hv λea va st1 h1 t1 H1 hv1=> ?_) hbi
 refine hb C H1 hv1 λeb vb st2 h2 t2 H2 hv2=> ?_
 exact hp J1q J54 H2 hv2 λb st' h' t' H' hP=>hQ _ _ st' h' t' (J8z λy y=>.pv (.bool b)) hP
theorem yY {e:Expr}{pos:Pos}{va:VC Bool}(ha:eV Γ n e va):eV Γ n (.UnaryOp .Not e pos) (λst P=>va st λb st1=>P (!b) st1):=by
 intro w A env X C st T vs s h t Q E P H hv hQ
 exact uB (ha C H hv λb st' h' t' H' hP=>hQ _ st' h' t' H' hP)
theorem tY {e:Expr}{va:VC EV}{prim:EV->VC Bool}(ha:Sem Γ n e va) (hp:OpT n prim)
  (hd:∀env,J0N e env (eval e env)=(do let v <- eval e env;standAt e.pos;holding [v] (truthy v))):eV Γ n e (λst P=>va st λa st1=>prim a st1 P):=by
 intro w A env X C st T vs s h t Q E P H hv hQ
 refine pU (ha C H hv λea va st1 h1 t1 H1 hv1=> ?_) (hd env)
 exact hp J1q J54 H1 hv1 hQ
theorem pD {pos:Pos}:eV Γ n (.BoolOp .And [] pos) (λst P=>P true st):=by
 intro w A env X C st T vs s h t Q E P H hv hQ
 exact l6 (hQ true st h t H hv)
theorem rn {pos:Pos}:eV Γ n (.BoolOp .Or [] pos) (λst P=>P false st):=by
 intro w A env X C st T vs s h t Q E P H hv hQ
 exact nS (hQ false st h t H hv)
theorem y4 {e:Expr}{rest:List Expr}{pos:Pos}{va vb:VC Bool}(ha:eV Γ n e va) (hb:eV Γ n (.BoolOp .And rest pos) vb):
  eV Γ n (.BoolOp .And (e::rest) pos) (λst P=>va st λb st1=>ifB b (vb st1 P) (P false st1)):=by
 intro w A env X C st T vs s h t Q E P H hv hQ
 refine uC (ha C H hv λb st' h' t' H' hP=> ?_)
 cases b with
 |true=>exact hb C H' hP hQ
 |false=>exact hQ _ _ _ _ H' hP
theorem B4 {e:Expr}{rest:List Expr}{pos:Pos}{va vb:VC Bool}(ha:eV Γ n e va) (hb:eV Γ n (.BoolOp .Or rest pos) vb):
  eV Γ n (.BoolOp .Or (e::rest) pos) (λst P=>va st λb st1=>ifB b (P true st1) (vb st1 P)):=by
 intro w A env X C st T vs s h t Q E P H hv hQ
 refine xA (ha C H hv λb st' h' t' H' hP=> ?_)
 cases b with
 |true=>exact hQ _ _ _ _ H' hP
 |false=>exact hb C H' hP hQ
theorem wM {c a b:Expr}{pos:Pos}{vt:VC Bool}{va vb:VC EV}(ht:eV Γ n c vt) (ha:Sem Γ n a va) (hb:Sem Γ n b vb):
  Sem Γ n (.IfExp c a b pos) (λst P=>vt st λx st1=>ifB x (va st1 P) (vb st1 P)):=by
 intro w A env X C st T vs s h t Q E P H hv hQ
 refine ra (ht C H hv λx st' h' t' H' hP=> ?_)
 cases x with
 |true=>exact ha C H' hP hQ
 |false=>exact hb C H' hP hQ
theorem ro {l r1a r2a:Expr}{op1 op2:CmpOp}{pos:Pos}{va vb vc:VC EV}{p1a p2a:EV->EV->VC Bool}(ha:Sem Γ n l va) (hb:Sem Γ n r1a vb) (hc:Sem Γ n r2a vc) (h1a:OpC n op1 p1a) (h2a:OpC n op2 p2a)
  (hl:lastMarks [op1,op2] [r1a,r2a]=false):
  eV Γ n (.Compare l [op1,op2] [r1a,r2a] pos) (λst P=>va st λa st1=>vb st1 λb st2=>p1a a b st2 λx st3=>ifB x (vc st3 λc st4=>p2a b c st4 P) (P false st3)):=by
 intro w A env X C st T vs s h t Q E P H hv hQ
 refine pV (rs:=[]) (ops:=[]) (ha C H hv λea va st1 h1 t1 H1 hv1=> ?_) hl
 show ae (model prog0 w) A (do
   let rv <- holding [va] (eval r1a env)
   standAt pos
   let c <- holding [va,rv] (compareOp op1 va rv)
   JBX [va,rv] [c]
   if <- holding [c,rv] (truthy c) then JDc pos rv [op2] [eval r2a env] else pure false) Q E (At s h1 t1)
 refine aa (ai (hb C H1 hv1 λeb vb st2 h2 t2 H2 hv2=> ?_))
 refine aa (am (aa (ai (h1a J1q J54 H2 hv2 λb st' h' t' H' hP=> ?_))))
 refine aa (cJ ?_)
 refine aa (ai (bx ?_))
 cases b with
 |false=>exact af (hQ _ _ _ _ JD7 hP)
 |true=>
  show ae (model prog0 w) A (do
   let rv <- holding [vb] (eval r2a env)
   standAt pos
   let c <- operate [vb,rv] (compareOp op2 vb rv)
   holding [c] (truthy c)) Q E (At s h' t')
  have H'':Rel w Γ X st' (eb::T) (vb::vs) h':=by
   refine J9 H' λN own ρ m R=> ?_
   refine e0_3 J14 λq1 q3 q4=> ?_
   exact⟨N,own,ρ,m,Jj (.cons q1 q4)⟩
  refine aa (ai (hc C H'' hP λec vc st3 h3 t3 H3 hv3=> ?_))
  refine aa (am (aa (dC ?_)))
  exact h2a J1q J54 H3 hv3 (λb st' h' t' H' hP=>ai (bx (hQ b st' h' t' JD7 hP)))
theorem tT {l r1a r2a:Expr}{op1 op2:CmpOp}{pos:Pos}{va vb vc:VC EV}{p1a p2a:EV->EV->VC Bool}(ha:Sem Γ n l va) (hb:Sem Γ n r1a vb) (hc:Sem Γ n r2a vc) (h1a:OpC n op1 p1a) (h2a:OpC n op2 p2a)
  (hl:∀env,eval (.Compare l [op1,op2] [r1a,r2a] pos) env=(do JAo pos (<- eval l env) [op1,op2] [eval r1a env,eval r2a env])):
  Sem Γ n (.Compare l [op1,op2] [r1a,r2a] pos) (λst P=>va st λa st1=>vb st1 λb st2=>p1a a b st2 λx st3=>ifB x (vc st3 λc st4=>p2a b c st4 λy st5=>P (.pv (.bool y)) st5) (P (.pv (.bool false)) st3)):=by
 intro w A env X C st T vs s h t Q E P H hv hQ
 rw[hl]
 refine aa (ha C H hv λea va st1 h1 t1 H1 hv1=> ?_)
 show ae (model prog0 w) A (do
   let rv <- holding [va] (eval r1a env)
   standAt pos
   let c <- holding [va,rv] (compareOp op1 va rv)
   JBX [va,rv] [c]
   if <- holding [c,rv] (truthy c) then JAo pos rv [op2] [eval r2a env] else pure c) Q E (At s h1 t1)
 refine aa (ai (hb C H1 hv1 λeb vb st2 h2 t2 H2 hv2=> ?_))
 refine aa (am (aa (ai (h1a J1q J54 H2 hv2 λb st' h' t' H' hP=> ?_))))
 refine aa (cJ ?_)
 refine aa (ai (bx ?_))
 cases b with
 |false=>exact af (hQ _ _ _ _ _ (J8z λz z=>.pv (.bool false)) hP)
 |true=>
  show ae (model prog0 w) A (do
   let rv <- holding [vb] (eval r2a env)
   standAt pos
   operate [vb,rv] (compareOp op2 vb rv)) Q E (At s h' t')
  have H'':Rel w Γ X st' (eb::T) (vb::vs) h':=by
   refine J9 H' λN own ρ m R=> ?_
   refine e0_3 J14 λq1 q3 q4=> ?_
   exact⟨N,own,ρ,m,Jj (.cons q1 q4)⟩
  refine aa (ai (hc C H'' hP λec vc st3 h3 t3 H3 hv3=> ?_))
  refine aa (am (dC ?_))
  exact h2a J1q J54 H3 hv3 (λb st' h' t' H' hP=>hQ _ _ st' h' t' (J8z λz z=>.pv (.bool b)) hP)
theorem y6:mK Γ n [] (λst P=>P .next st):=by
 intro w A env X C st T vs s h t E P H hv
 exact dD ⟨st,h,t,rfl,H,hv⟩
def Gs (P:Fl->St->Prop) (k:St->Prop) (f:Fl) (st:St):Prop:=match f with
 | .next=>k st
 | .brk=>P .brk st
 | .cont=>P .cont st
 | .ret e=>P (.ret e) st
theorem wZ {c:Stmt}{rest:List Stmt}{va vb:VC Fl}(ha:jc Γ n c va) (hb:mK Γ n rest vb):
  mK Γ n (c::rest) (λst P=>va st (Gs P λst1=>vb st1 P)):=by
 intro w A env X C st T vs s h t E P H hv
 refine bQ (ag (ha C H hv) (λf s' hf=> ?_) λy y x=>x)
 obtain⟨st',h',t',rfl,hf⟩:=hf
 cases f with
 |next=>exact hb C hf.1 hf.2
 |brk=>exact⟨st',h',t',rfl,hf⟩
 |cont=>exact⟨st',h',t',rfl,hf⟩
 |ret v=>exact⟨st',h',t',rfl,hf⟩
theorem B3 {c:Expr}{a b:List Stmt}{pos:Pos}{vt:VC Bool}{va vb:VC Fl}(ht:eV Γ n c vt) (ha:mK Γ n a va) (hb:mK Γ n b vb):
  jc Γ n (.If c a b pos) (λst P=>vt st λx st1=>ifB x (va st1 P) (vb st1 P)):=by
 intro w A env X C st T vs s h t E P H hv
 refine rb (ht C H hv λx st' h' t' H' hP=> ?_)
 cases x with
 |true=>exact ha C H' hP
 |false=>exact hb C H' hP
theorem yW {e:Expr}{pos:Pos}{va:VC EV}(ha:Sem Γ n e va):jc Γ n (.Return (some e) pos) (λst P=>va st λa st1=>P (.ret a) st1):=by
 intro w A env X C st T vs s h t E P H hv
 exact iA (ha C H hv λea va st1 h1 t1 H1 hv1=>⟨st1,h1,t1,rfl,(az ea H1 hv1)⟩)
def cO (Γ:Nm) (n:Nat) (e:Expr) (vc:EV->VC Unit):Prop:=
 ∀{{w:World}} {{A:J7}} {{env:Env}} {{X:Fx}},Cx w A env Γ X n->∀{{st:St}} {{T:List EV}} {{vs:List Value}} {{ea:EV}} {{va:Value}} {{s:J1}} {{h:Heap}} {{t:Nat}} {{Q:Unit->J1->Prop}} {{E:Value->J1->Prop}} {{P:Unit->St->Prop}},
  Rel w Γ X st (ea::T) (va::vs) h->vc ea st P->(∀st' h' t',Rel w Γ X st' T vs h'->P () st'->Q () (At s h' t'))->ae (model prog0 w) A (J5d e env va) Q E (At s h t)
def cZ (Γ:Nm) (n:Nat) (x:Str) (vc:EV->VC Unit):Prop:=
 ∀{{w:World}} {{A:J7}} {{env:Env}} {{X:Fx}},Cx w A env Γ X n->∀{{st:St}} {{T:List EV}} {{vs:List Value}} {{ea:EV}} {{va:Value}} {{s:J1}} {{h:Heap}} {{t:Nat}} {{Q:Unit->J1->Prop}} {{E:Value->J1->Prop}} {{P:Unit->St->Prop}},
  Rel w Γ X st (ea::T) (va::vs) h->vc ea st P->(∀st' h' t',Rel w Γ X st' T vs h'->P () st'->Q () (At s h' t'))->ae (model prog0 w) A (JDf env x va) Q E (At s h t)
theorem fU {x:Str}{i j:Nat}(hm:nth Γ.nm j=some (x,J4B)) (hc:Γ.comp=false) (hi:nth Γ.ln i=some x):cZ Γ n x (λe st P=>P () { st with lo:=upd JDh i (some e) }):=by
 intro w A env X C st T vs ea va s h t Q E P H hv hQ
 refine J9 H λN own ρ m R=> ?_
 rw[aZ] at hi
 obtain⟨q1,q2⟩:=Jg
 refine av (JAQ (JB8 (bd hm)) (m:=m) (by rw[C.loc hc];exact J8l) (λh' hn hs=> ?_) (by rw[J5h];rfl))
 rw[C.loc hc] at hn hs
 refine hQ _ h' _ ?_ hv
 rw[dX]
 exact⟨N,own,ρ,_,(R.setLocal C.lnd hi q1 (R.fr.set hn hs) (R.nw.set hs)).temps q2⟩
theorem tM {x:Str}{i j:Nat}(hm:nth Γ.nm j=some (x,J1S)) (hi:nth Γ.cn i=some x):cZ Γ n x (λe st P=>P () { st with ce:=upd JAV i (some e) }):=by
 intro w A env X C st T vs ea va s h t Q E P H hv hQ
 refine J9 H λN own ρ m R=> ?_
 rw[aZ] at hi
 refine e1_2 (C.cl i x hi (bd hm)) λc hc1 hc2=> ?_
 obtain⟨q1,o,ov,q2,q3,q4⟩:=R.ce i c hc1
 refine e0_2 Jg λz1 z2=> ?_
 refine av (wpAny_storeName_cell J5h (JB8 (bd hm)) hc2 (az o ((JH _ q2).1) q3) λh' hv' hs=> ?_)
 refine e1_2 hv' λo' ho' hd'=> ?_
 clear hv'
 refine e0_2 (R.same q2 hs ho') λF' W'=> ?_
 refine hQ _ h' _ ?_ hv
 rw[dX]
 have R':=R.setCell hc1 z1 hd' F' W'
 refine e0_2 J7g λy1 y2=> ?_
 exact⟨_,_,_,_,J1e y2⟩
theorem tL {x:Str}{i j:Nat}(hm:nth Γ.nm j=some (x,J4B)) (hc:Γ.comp=true) (hi:nth Γ.kn i=some x):cZ Γ n x (λe st P=>P () { st with co:=upd JDi i (some e) }):=by
 intro w A env X C st T vs ea va s h t Q E P H hv hQ
 refine J9 H λN own ρ m R=> ?_
 rw[aZ] at hi
 refine e1_2 (C.cloc hc) λc hc1 hc2=> ?_
 obtain⟨q1,o,es,ep,q2,q3,q5,q4⟩:=R.co c hc1
 refine e0_2 Jg λz1 z2=> ?_
 refine av (JAQ (JB8 (bd hm)) (m:=J8R es) (by rw[hc2];exact Cz (JH _ q2).1 q3 q5) (λh' hn hs=> ?_) (by rw[J5h];rfl))
 rw[hc2] at hn hs
 refine e3_4 hn λo' es' ep' ho' hd' hk' hn'=> ?_
 clear hn
 refine e0_2 (R.same q2 hs ho') λF' W'=> ?_
 refine hQ _ h' _ ?_ hv
 rw[dX]
 have R':=R.setComp hc1 C.knd hi z1 (eJ o ep q2 q3) hd' hk' hn' F' W' JH
 refine e0_2 J7g λy1 y2=> ?_
 exact⟨_,_,_,_,J1e y2⟩
theorem jv {x:Str}{pos:Pos}{vc:EV->VC Unit}(hs:cZ Γ n x vc):cO Γ n (.Name x pos) vc:=by
 intro w A env X C st T vs ea va s h t Q E P H hv hQ
 exact kj (hs C H hv hQ)
end
def Ai:EV->List Nat
 | .loc i=>[i]
 |_=>[]
def Dr:List (Nat×EV)->List Nat:=lR [] λp y r=>match p with |(_,e)=>Ai e++r
def Dq:List EV->List Nat:=lR [] λe y r=>Ai e++r
def FS:Option SO->List Nat
 |some (.inst _ as)=>Dr as
 |some (.sdict as)=>Dr as
 |some (.elist es)=>Dq es
 |_=>[]
def nT (i:Nat) (l:List Nat):Bool:=l.any (J1z i)
def kQ (i:Nat):List Nat->Option Nat:=lR none λj y r=>cond (J1z i j) (some 0) (JGu (·+1))
def k6:Nat->List SO->List Nat->List Nat->List Nat
 |0,_,_,acc=>acc
 |_+1,_,[],acc=>acc
 |n+1,sl,i::q,acc=>match nT i acc with
  |true=>k6 n sl q acc
  |false=>k6 n sl (q++FS (nth sl i)) (acc++[i])
def fX (sl:List SO) (args:List EV):List Nat:=k6 64 sl (Dq args) []
def okIds (l:List Nat) (n:Nat):Bool:=lR true (λi r q=>cond (J5R i n) (cond (nT i r) false q) false) l
def ren (ids:List Nat):EV->EV
 | .loc i=>(match kQ i ids with
  |some j=>.loc j
  |none=>.bad)
 | .pv p=>.pv p
 | .bad=>.bad
def bkN (ids:List Nat) (n0a:Nat) (j:Nat):Nat:=match nth ids j with
 |some i=>i
 |none=>n0a+(j - J13)
def bk (ids:List Nat) (n0a:Nat):EV->EV
 | .loc j=>.loc (bkN ids n0a j)
 | .pv p=>.pv p
 | .bad=>.bad
def CC (f:EV->EV):List (Nat×EV)->List (Nat×EV):=lR [] λp y r=>match p with |(k,e)=>(k,f e)::r
def gL (f:EV->EV) (l:List EV):List EV:=JE f
def j2 (f:EV->EV):SO->SO
 | .inst C as=>.inst C (CC f as)
 | .sdict as=>.sdict (CC f as)
 | .list vs=>.list vs
 | .elist es=>.elist (gL f es)
 | .tdict es=>.tdict es
 | .ba b=>.ba b
 | .tab=>.tab
 | .dead=>.dead
def Cw (sl:List SO) (i:Nat):SO:=match nth sl i with
 |some so=>so
 |none=>.dead
def fY (f:EV->EV) (sl:List SO) (l:List Nat):List SO:=JE λi=>j2 f (Cw sl i)
def nQ (f:EV->EV) (l:List SO):List SO:=JE (j2 f)
def wb:List Nat->List SO->List SO->List SO
 |[],rest,sl=>sl++rest
 |i::ids,so::rest,sl=>wb ids rest (upd sl i so)
 |_::_,[],sl=>sl
abbrev jb:=List EV->List SO->(EV->List SO->Prop)->Prop
def uM:Nat->(Nat->Prop)->Prop
 |0,k=>k 0
 |n+1,k=>uM n λm=>k (m+1)
def fEV (e:EV) (k:EV->Prop):Prop:=match e with
 | .pv p=>k (.pv p)
 | .loc i=>uM i λi=>k (.loc i)
 | .bad=>k .bad
def fL {α:Type}(g:α->(α->Prop)->Prop):List α->(List α->Prop)->Prop:=lR (λk=>k []) λa y q k=>g a λa=>q λl=>k (a::l)
def fOs:List (Option EV)->(List (Option EV)->Prop)->Prop:=fL λe k=>k e
def fAs:List (Nat×EV)->(List (Nat×EV)->Prop)->Prop:=fL λp k=>match p with |(i,e)=>fEV e λe=>k (i,e)
def fEs:List EV->(List EV->Prop)->Prop:=fL fEV
def fSO (so:SO) (k:SO->Prop):Prop:=match so with
 | .list vs=>k (.list vs)
 | .elist es=>fEs es λes=>k (.elist es)
 | .sdict as=>fAs as λas=>k (.sdict as)
 | .tdict es=>k (.tdict es)
 | .ba b=>k (.ba b)
 | .inst C as=>fAs as λas=>k (.inst C as)
 | .tab=>k .tab
 | .dead=>k .dead
def fSs:List SO->(List SO->Prop)->Prop
 |[],k=>k []
 |s::r,k=>fSO s λs=>fSs r λr=>k (s::r)
def fSt (st:St) (k:St->Prop):Prop:=fOs JDh λlo=>fOs JAV λce=>fOs JDi λco=>fSs J5 λsl=>k ⟨lo,ce,co,sl⟩
theorem eD:∀{n:Nat}{k:Nat->Prop},uM n k↔k n
 |0,k=>J66
 |n+1,k=>eD (n:=n) (k:=λm=>k (m+1))
theorem v9 {e:EV}{k:EV->Prop}:fEV e k↔k e:=by
 cases e with
 |pv p=>exact J66
 |loc i=>exact eD (k:=λi=>k (.loc i))
 |bad=>exact J66
theorem CQ {α:Type}{g:α->(α->Prop)->Prop}(hg:∀a k,g a k↔k a) {l:List α}{k:List α->Prop}:fL g l k↔k l:=by
 induction l generalizing k with
 |nil=>exact J66
 |cons a l ih=>exact (hg a _).trans ih
theorem AS {l:List (Option EV)}{k:List (Option EV)->Prop}:fOs l k↔k l:=CQ λa k=>J66
theorem Dx {l:List (Nat×EV)}{k:List (Nat×EV)->Prop}:fAs l k↔k l:=CQ λp k=>by cases p;exact v9
theorem Dw {l:List EV}{k:List EV->Prop}:fEs l k↔k l:=CQ λa k=>v9
theorem FY {so:SO}{k:SO->Prop}:fSO so k↔k so:=by
 cases so with
 |elist es=>exact Dw (k:=λes=>k (.elist es))
 |sdict as=>exact Dx (k:=λes=>k (.sdict es))
 |inst C as=>exact Dx (k:=λes=>k (.inst C es))
 |_=>exact J66
theorem v8 {l:List SO}{k:List SO->Prop}:fSs l k↔k l:=by
 induction l generalizing k with
 |nil=>exact J66
 |cons s r ih=>exact FY.trans ih
theorem v7 {st:St}{k:St->Prop}:fSt st k↔k st:=JFx (JFx (JFx v8))
def fNs:List Nat->(List Nat->Prop)->Prop:=fL uM
theorem F0 {l:List Nat}{k:List Nat->Prop}:fNs l k↔k l:=CQ λa k=>eD
def qF (spec:jb) (args:List EV):VC EV:=λst P=>fNs (fX J5 args) λids=>uM JK λn=>
 match okIds ids n with
 |true=>fEs (gL (ren ids) args) λas=>fSs (fY (ren ids) J5 ids) λsl=>spec as sl λr sl2=>P (bk ids n r) { st with sl:=wb ids (nQ (bk ids n) sl2) J5 }
 |false=>False
theorem Bl {spec:jb}{args:List EV}{st:St}{P:EV->St->Prop}(h:qF spec args st P):okIds (fX J5 args) JK=true/\
  spec (gL (ren (fX J5 args)) args) (fY (ren (fX J5 args)) J5 (fX J5 args)) λr sl2=>
   P (bk (fX J5 args) JK r) { st with sl:=wb (fX J5 args) (nQ (bk (fX J5 args) JK) sl2) J5 }:=by
 have h:=eD.mp (F0.mp h)
 generalize okIds _ _=b at h ⊢
 cases b with
 |true=>exact⟨rfl,v8.mp (Dw.mp h)⟩
 |false=>exact JX
theorem f5 {i:Nat}{l:List Nat}:nT i l=true↔i∈l:=List.any_eq_true.trans ⟨λ⟨x,h,e⟩=>J19 e▸h,λh=>⟨i,h,JGS i⟩⟩
theorem AF {i k:Nat}{r:List Nat}:kQ i (k::r)=cond (J1z i k) (some 0) ((kQ i r).map (·+1)):=rfl
theorem o0 {i:Nat}{l:List Nat}:∀{j:Nat},kQ i l=some j->l[j]? =some i:=by
 induction l with
 |nil=>exact λh=>nomatch h
 |cons k r ih=>
  intro j h
  rw[AF] at h
  cases hb:J1z i k with
  |true=>
   rw[hb] at h
   cases h
   exact JD some (J19 hb).symm
  |false=>
   rw[hb] at h
   refine e1_2 (Jw h) λq h1 er0=>er0▸?_
   exact ih h1
theorem pY {i:Nat}{l:List Nat}:∀{j:Nat},JDw->l[j]? =some i->kQ i l=some j:=by
 induction l with
 |nil=>exact λy h=>nomatch h
 |cons k r ih=>
  intro j hn h
  rw[AF]
  cases j with
  |zero=>
   rw[JT h,JGS];rfl
  |succ j=>
   have hb:J1z i k=false:=Bool.eq_false_iff.mpr λq=>(J0S hn).1 (J19 q▸J01 (l:=r) h)
   rw[hb,ih (J0S hn).2 h];rfl
theorem gB {n:Nat}{ids:List Nat}:okIds ids n=true->JDz/\∀i∈ids,i<n:=by
 induction ids with
 |nil=>exact λy=>⟨J1B,λy h=>nomatch h⟩
 |cons i r ih=>
  intro h
  have h:cond (J5R i n) (cond (nT i r) false (okIds r n)) false=true:=h
  cases h1:J5R i n with
  |false=>rw[h1] at h;cases h
  |true=>
   replace h:=(h1)▸h
   cases h2:nT i r with
   |true=>rw[h2] at h;cases h
   |false=>
    rw[h2] at h
    obtain⟨q1,q2⟩:=ih h
    refine⟨J1c ⟨(λq=>by rw[f5.mpr q] at h2;cases h2),q1⟩,λk hk=> ?_⟩
    clear h h2
    rcases Jf hk with rfl|hk
    ·exact J0G h1
    ·exact q2 k hk
theorem Af (f:EV->EV) (l:List EV):(gL f l).length=JV:=J6 _
theorem rZ (f:EV->EV) (l:List SO):(nQ f l).length=JV:=J6 _
theorem r7 (f:EV->EV) (l:List SO) (i:Nat):(nQ f l)[i]? =l[i]?.map (j2 f):=JR
theorem lO (f:EV->EV) (sl:List SO) (l:List Nat):(fY f sl l).length=JV:=J6 _
theorem rR (f:EV->EV) (sl:List SO) (l:List Nat) (j:Nat):(fY f sl l)[j]? =l[j]?.map λi=>j2 f (Cw sl i):=JR
theorem DO (ids:List Nat):∀(rest sl:List SO),J13<=J3W->(wb ids rest sl).length=J4c+(J3W - J13):=by
 induction ids with
 |nil=>exact λrest sl y=>JO
 |cons i ids ih=>
  intro rest sl h
  cases rest with
  |nil=>exact absurd h (JBM _)
  |cons so rest=>
   refine (ih rest (upd sl i so) (JAM h)).trans ?_
   rw[dX,J4o,J0w,J0w,Nat.succ_sub_succ]
theorem DP (ids:List Nat):∀(rest sl:List SO) (k:Nat),J13<=J3W->JDz->(∀i∈ids,i<J4c)->
  (∀(j:Nat),ids[j]? =some k->(wb ids rest sl)[k]? =rest[j]?)/\(k∉ids->k<J4c->(wb ids rest sl)[k]? =sl[k]?)/\(J4c<=k->(wb ids rest sl)[k]? =rest[J13+(k - J4c)]?):=by
 induction ids with
 |nil=>exact λrest sl k y y y=>⟨λj h=>(nomatch h),λy h=>J0W h,λh=>(J0D h).trans (by rw[J30,J4z])⟩
 |cons i ids ih=>
  intro rest sl k hl hn hb
  cases rest with
  |nil=>exact absurd hl (JBM _)
  |cons so rest=>
   refine e0_2 (J0S hn) λhi hn'=> ?_
   have hlen:(upd sl i so).length=J4c:=J4o
   refine e0_3 (ih rest (upd sl i so) k (JAM hl) hn' (λx hx=>hlen.symm▸hb x (Jk _ hx))) λa b c=> ?_
   rw[hlen] at b c
   refine⟨λj h=> ?_,λh1 h2=> ?_,λh=> ?_⟩
   ·clear c
    cases j with
    |zero=>
     clear a
     cases h
     exact (b hi (hb i JB)).trans (J1Z (hb i JB))
    |succ j=>exact a j h
   ·exact (b (λz=>h1 (Jk _ z)) h2).trans (J2E λz:i=k=>h1 (z▸JB))
   ·refine (c h).trans ?_
    rw[J0w,Nat.succ_add];rfl
theorem EVa.map {fz fz':FzP}{ρ ρ':List Addr}{f:EV->EV}(hf:∀e v,EVR fz ρ e v->EVR fz' ρ' (f e) v) {as:List (Nat×EV)}{es:List J0g}(h:EVa fz ρ as es):EVa fz' ρ' (CC f as) es:=by
 induction h with
 |nil=>exact .nil
 |cons hk hl h _ ih=>exact .cons hk hl (hf _ _ h) ih
theorem EVk.map {fz fz':FzP}{ρ ρ':List Addr}{f:EV->EV}(hf:∀e v,EVR fz ρ e v->EVR fz' ρ' (f e) v) {as:List (Nat×EV)}{es:List (Str×Value)}(h:EVk fz ρ as es):EVk fz' ρ' (CC f as) es:=by
 induction h with
 |nil=>exact .nil
 |cons hl h _ ih=>exact .cons hl (hf _ _ h) ih
theorem EVs.map {fz fz':FzP}{ρ ρ':List Addr}{f:EV->EV}(hf:∀e v,EVR fz ρ e v->EVR fz' ρ' (f e) v) {es:List EV}{vs:List Value}(h:EVs fz ρ es vs):EVs fz' ρ' (gL f es) vs:=by
 induction h with
 |nil=>exact .nil
 |cons h _ ih=>exact .cons (hf _ _ h) ih
theorem SOR.move {w:World}{N N':Led}{own own':Own}{fz fz':FzP}{ρ ρ':List Addr}{i j:Nat}{a:Addr}{so:SO}{f:EV->EV}(m:∀a o,fz a o->fz' a o) (hf:∀e v,EVR fz ρ e v->EVR fz' ρ' (f e) v)
  (hN:∀b o,own b=.slot i->(b,o)∈N->(b,o)∈N') (ho:∀b o,own b=.slot i->(b,o)∈N->own' b=.slot j) (ha:own a=.slot i)
  (h:SOR w N own fz ρ i a so):SOR w N' own' fz' ρ' j a (j2 f so):=by
 cases h with
 |list h=>exact .list (JCD m λo=>hN _ o ha)
 |elist h hl=>exact .elist (hN _ _ ha h) (hl.map hf)
 |sdict h lo hx hd hk hp hn h2=>exact .sdict (hN _ _ ha h) lo hx hd hk hp hn (h2.map hf)
 |tdict h lo hx hd he hn ht=>exact .tdict (hN _ _ ha h) lo hx hd he hn (J9u m)
 |ba h hb=>exact .ba (hN _ _ ha h) hb
 |inst hx hd h1 hne h2=>exact .inst (hN _ _ ha hx) (hN _ _ h1 hd) (ho _ _ h1 hd) hne (h2.map hf)
 |tab h ht=>exact .tab (hN _ _ ha h) (J9u hN ho)
 |dead=>exact .dead
theorem vV {sl:List SO}{i:Nat}{so:SO}(h:sl[i]? =some so):Cw sl i=so:=by unfold Cw;rw[aZ,h]
def Ae (f:EV->EV) (l:List (Option EV)):List (Option EV):=JE (JCy f)
theorem Ad (f:EV->EV) (l:List (Option EV)) (i:Nat):(Ae f l)[i]? =l[i]?.map (JCy f):=JR
theorem jz {f:EV->EV}{l:List (Option EV)}{i:Nat}{e:EV}(h:(Ae f l)[i]? =some (some e)):∃e0a,l[i]? =some (some e0a)/\e=f e0a:=by
 rw[Ad] at h
 cases q:l[i]? with
 |none=>rw[q] at h;cases h
 |some o=>
  replace h:=(q)▸h
  cases o with
  |none=>cases h
  |some e0a=>cases h;exact (az e0a rfl rfl)
def Cy (ρ:List Addr) (i:Nat):Addr:=match nth ρ i with
 |some a=>a
 |none=>0
def c6 (ρ:List Addr) (l:List Nat):List Addr:=JE (Cy ρ)
theorem gw (ρ:List Addr) (ids:List Nat):(c6 ρ ids).length=J13:=J6 _
theorem eG (ρ:List Addr) (ids:List Nat) (j:Nat):(c6 ρ ids)[j]? =ids[j]?.map (Cy ρ):=JR
theorem iO {ρ:List Addr}{i:Nat}{a:Addr}(h:ρ[i]? =some a):Cy ρ i=a:=by unfold Cy;rw[aZ,h]
theorem f0 {α:Type}{l:List α}{i:Nat}(h:i<JV):∃a,l[i]? =some a:=⟨l[i],Jy h⟩
theorem EC {α:Type}{l:List α}{i:Nat}{a:α}(h:l[i]? =some a):i<JV:=by
 rcases J1Y i JV with q|q
 ·exact q
 ·rw[J0H q] at h;cases h
def D7 (ids:List Nat) (st:St):St:={ lo:=Ae (ren ids) JDh,ce:=Ae (ren ids) JAV,co:=Ae (ren ids) JDi,sl:=fY (ren ids) J5 ids }
def lS (own:Own) (ids:List Nat):Own:=λa=>match own a with
 | .slot i=>(match kQ i ids with
  |some j=>.slot j
  |none=>.junk)
 |l=>l
theorem gz {own:Own}{ids:List Nat}{a:Addr}{i j:Nat}(hn:JDz) (h:own a=.slot i) (hj:ids[j]? =some i):lS own ids a=.slot j:=by
 unfold lS;rw[h];dsimp only;rw[pY hn hj]
section
variable {w:World}{Γ:Nm}{X:Fx}{st:St}{T:List EV}{vs:List Value}{h:Heap}{N:Led}{own:Own}{ρ:List Addr}{m:Str->Option Value}
set_option tactic.hygienic true in
theorem EVR.renR {fz fz':FzP}{ρ:List Addr}{ids:List Nat}(mz:∀a o,fz a o->fz' a o) {e:EV}{v:Value}(h:EVR fz ρ e v):EVR fz' (c6 ρ ids) (ren ids e) v:=by
 cases h with
 |pv h=>exact .pv (J6l mz h)
 |bad v=>exact .bad v
 |loc h=>
  rename_i i a
  show EVR fz' _ (match kQ i ids with |some j=>JGg j|none=>.bad) _
  cases q:kQ i ids with
  |none=>exact .bad _
  |some j=>exact .loc (by rw[eG,o0 q,J4m,iO h])
theorem EVs.renR {fz fz':FzP}{ρ:List Addr}{ids:List Nat}(mz:∀a o,fz a o->fz' a o) {es:List EV}{vs:List Value}(h:EVs fz ρ es vs):EVs fz' (c6 ρ ids) (gL (ren ids) es) vs:=by
 induction h with
 |nil=>exact .nil
 |cons h _ ih=>exact .cons (h.renR mz) ih
theorem aA.pickR {ids:List Nat}(H:aA w Γ X st T vs h N own ρ m) (hi:okIds ids JK=true) (hp:X.ρ0 <+: c6 ρ ids):aA w Γ X (D7 ids st) (gL (ren ids) T) vs h N (lS own ids) (c6 ρ ids) m:=by
 refine e0_2 (gB hi) λhnd hlt=> ?_
 have sl_:∀(j:Nat) (a:Addr) (so:SO),(c6 ρ ids)[j]? =some a->(fY (ren ids) J5 ids)[j]? =some so->∃i so0,ids[j]? =some i/\ρ[i]? =some a/\J5[i]? =some so0/\so=j2 (ren ids) so0:=by
  intro j a so h1 h2
  rw[eG] at h1
  rw[rR] at h2
  cases q:ids[j]? with
  |none=>rw[q] at h1;cases h1
  |some i=>
   rw[q] at h1 h2
   have hl:=hlt i (J01 q)
   refine e1_1 (f0 hl) λso0 hs=> ?_
   refine e1_1 (f0 (l:=ρ) (J6r▸hl)) λa0a ha=> ?_
   simp only [J4m,JCx] at h1 h2
   rw[iO ha] at h1
   rw[vV hs] at h2
   exact (dL i so0 rfl (h1▸ha) hs JHA)
 have mz:∀a o,aI JA N own a o->aI JA N (lS own ids) a o:=by
  rintro a o (q|⟨q1,q2⟩)
  ·exact .inl q
  ·exact .inr ⟨q1,by unfold lS;rw[q2]⟩
 refine⟨H.fr,JD4,?_,?_,?_,?_,?_,?_,hp,H.tmp.renR mz,λp q=>⟨(J3H p q).1,by unfold lS;rw[(J3H p q).2]⟩,JD5⟩
 ·intro i x e h1 h2
  refine e1_2 (jz h2) λe0a q1 er0=> ?_
  refine Jm▸?_
  refine e1_2 (JHV i x e0a h1 q1) λv z1 z2=> ?_
  exact (az v z1 (z2.renR mz))
 ·intro i c h1
  obtain⟨q1,o,ov,q2,q3,q4⟩:=JHY i c h1
  refine (cD (by unfold lS;rw[q1]) o ov q2 q3 (λe q=> ?_))
  refine e1_2 (jz q) λe0a z1 er1=> ?_
  refine J0y▸?_
  refine e1_2 (q4 e0a z1) λv y1 y2=> ?_
  exact (az v y1 (y2.renR mz))
 ·intro c h1
  obtain⟨q1,o,es,ep,q2,q3,q5,q4⟩:=JHX c h1
  refine (bU (by unfold lS;rw[q1]) o es ep q2 q3 q5 (λi x e y1 y2=> ?_))
  refine e1_2 (jz y2) λe0a z1 er2=> ?_
  refine J3P▸?_
  refine e1_2 (q4 i x e0a y1 z1) λv x1 x2=> ?_
  exact (az v x1 (x2.renR mz))
 ·intro j a so h1 h2
  refine e2_4 (sl_ j a so h1 h2) λi so0 q1 q2 q3 er3=> ?_
  obtain rfl:=er3
  rcases JBv i a so0 q2 q3 with z|z
  ·subst z;exact .inl rfl
  ·exact .inr (gz hnd z q1)
 ·show (fY (ren ids) J5 ids).length=_
  rw[lO,gw]
 ·intro j a so h1 h2
  refine e2_4 (sl_ j a so h1 h2) λi so0 q1 q2 q3 er4=> ?_
  obtain rfl:=er4
  by_cases hd:so0=.dead
  ·subst hd;exact .dead
  ·exact (JCR i a so0 q2 q3).move mz (λe v z=>z.renR mz) (λb o y q=>q) (λb o z y=>gz hnd z q1) (J3d q2 q3 hd)
end
def dH (own:Own) (ids:List Nat) (a:Addr):Bool:=match own a with
 | .slot i=>nT i ids
 |_=>false
theorem jB {own:Own}{ids:List Nat}{a:Addr}:dH own ids a=true↔∃i,own a=.slot i/\i∈ids:=by
 unfold dH
 cases q:own a with
 |slot i=>
  refine (f5).trans ?_
  exact⟨λz=>⟨i,rfl,z⟩,λ⟨j,z1,z2⟩=>by cases z1;exact z2⟩
 |_=>exact⟨λz=>(by cases z),λ⟨j,z1,_⟩=>(by cases z1)⟩
def ledIn (N:Led) (own:Own) (ids:List Nat):Led:=J8D λp=>dH own ids p.1
def fc (N:Led) (own:Own) (ids:List Nat):Led:=J8D λp=> !dH own ids p.1
theorem gC {N:Led}{own:Own}{ids:List Nat}{p:Addr×Obj}:p∈ledIn N own ids↔p∈N/\dH own ids p.1=true:=J8t
theorem fb {N:Led}{own:Own}{ids:List Nat}{p:Addr×Obj}:p∈fc N own ids↔p∈N/\dH own ids p.1=false:=by
 unfold fc;rw[J8t];simp
abbrev Fx.into (X:Fx) (N:Led) (own:Own) (ρ:List Addr) (ids:List Nat) (g:Heap) (L:Addr) (ca:List Addr):Fx:=
 { g:=g,L:=L,ca:=ca,Lc:=none,ρ0:=c6 ρ ids,fz0:=aI JA N own,K:=X.K,hs:=[] }
section
variable {w:World}{Γ:Nm}{X:Fx}{st:St}{T:List EV}{vs:List Value}{h:Heap}{N:Led}{own:Own}{ρ:List Addr}{m:Str->Option Value}{ids:List Nat}
theorem aA.newsIn (H:aA w Γ X st T vs h N own ρ m):News X.g X.L h (ledIn N own ids):=λp hp=>JD4 p (gC.mp hp).1
theorem aA.out_get (H:aA w Γ X st T vs h N own ρ m) {p:Addr×Obj}(hp:p∈fc N own ids):(J3I h ((ledIn N own ids).map (·.1))).get? p.1=some p.2:=by
 refine e0_2 (fb.mp hp) λq1 q2=> ?_
 refine JBb _ (JD4 p q1).1 λz=> ?_
 refine e1_2 (Ja z) λp' hp' e=> ?_
 have:=(gC.mp hp').2
 rw[e,q2] at this;cases this
theorem aA.base_get (H:aA w Γ X st T vs h N own ρ m) {a:Addr}{o:Obj}(ha:J1s a=some o):(J3I h ((ledIn N own ids).map (·.1))).get? a=some o:=by
 refine JBb _ (JEl _ _ ha) λz=> ?_
 refine e1_2 (Ja z) λp' hp' e=> ?_
 have:=(JD4 p' (gC.mp hp').1).2.2
 rw[e,ha] at this;cases this
theorem aA.bok (B:BOk w X) (H:aA w Γ X st T vs h N own ρ m) {L:Addr}{ca:List Addr}:BOk w (JEO N own ρ ids (J3I h ((ledIn N own ids).map (·.1))) L ca):=by
 refine⟨JDB λb o e=>JD6 e,JHd,?_,?_⟩
 ·obtain⟨p,mg,mb,loose,t⟩:=B.top
  exact⟨p,mg,mb,loose,t.keeps λb o e=>JD6 e⟩
 ·rintro a o (q|⟨q1,q2⟩)
  ·exact JD6 (B.fz a o q)
  ·refine JEj (p:=(a,o)) (fb.mpr ⟨q1,?_⟩)
   unfold dH;dsimp only;rw[q2]
theorem aA.enter (H:aA w Γ X st T vs h N own ρ m) (hi:okIds ids JK=true) {Γ':Nm}{L:Addr}{h1a:Heap}{m':Str->Option Value}{cells:Led}{ca:List Addr}{lo ce co:List (Option EV)}{own':Own}
  (F':Fr (J3I h ((ledIn N own ids).map (·.1))) L h1a m') (N':News (J3I h ((ledIn N own ids).map (·.1))) L h1a (cells++ledIn N own ids))
  (ho:∀p∈ledIn N own ids,own' p.1=lS own ids p.1) (hca:∀(i:Nat) (c:Addr),ca[i]? =some c->own' c=.cell i/\∃o ov,(c,o)∈cells/\J2v=.cell ov/\∀e,ce[i]? =some (some e)->∃v,ov=some v/\EVR (aI JA N own) (c6 ρ ids) e v)
  (hlo:∀(i:Nat) (x:Str) (e:EV),Γ'.ln[i]? =some x->lo[i]? =some (some e)->∃v,m' x=some v/\EVR (aI JA N own) (c6 ρ ids) e v):
  aA w Γ' (JEO N own ρ ids (J3I h ((ledIn N own ids).map (·.1))) L ca) { lo:=lo,ce:=ce,co:=co,sl:=fY (ren ids) J5 ids } [] [] h1a (cells++ledIn N own ids) own' (c6 ρ ids) m':=by
 refine e0_2 (gB hi) λhnd hlt=> ?_
 have mz:∀a o,aI JA N own a o->aI (aI JA N own) (cells++ledIn N own ids) own' a o:=λa o q=>.inl q
 have sl_:∀(j:Nat) (a:Addr) (so:SO),(c6 ρ ids)[j]? =some a->(fY (ren ids) J5 ids)[j]? =some so->∃i so0,ids[j]? =some i/\ρ[i]? =some a/\J5[i]? =some so0/\so=j2 (ren ids) so0:=by
  intro j a so h1 h2
  rw[eG] at h1
  rw[rR] at h2
  cases q:ids[j]? with
  |none=>rw[q] at h1;cases h1
  |some i=>
   rw[q] at h1 h2
   have hl:=hlt i (J01 q)
   refine e1_1 (f0 hl) λso0 hs=> ?_
   refine e1_1 (f0 (l:=ρ) (J6r▸hl)) λa0a ha=> ?_
   simp only [J4m,JCx] at h1 h2
   rw[iO ha] at h1
   rw[vV hs] at h2
   exact (dL i so0 rfl (h1▸ha) hs JHA)
 have inl:∀{i j:Nat}{b:Addr}{o:Obj},ids[j]? =some i->own b=.slot i->(b,o)∈N->(b,o)∈ledIn N own ids:=λhj hb hm=>gC.mpr ⟨hm,jB.mpr (az _ hb (J01 hj))⟩
 refine⟨F',N',?_,?_,λc hc=>(by cases hc),?_,by show (fY _ _ _).length=_;rw[lO,gw],?_,J83 _,.nil,λp hp=>(by cases hp),J1B⟩
 ·intro i x e h1 h2
  refine e1_2 (hlo i x e h1 h2) λv q1 q2=> ?_
  exact (az v q1 (J5p mz λy y z=>z))
 ·intro i c hc
  obtain⟨q1,o,ov,q2,q3,q4⟩:=hca i c hc
  exact (cD q1 o ov (J06 _ q2) q3 (λe z=>let ⟨v,y1,y2⟩:=q4 e z;(az v y1 (JDY mz λy y z=>z))))
 ·intro j a so h1 h2
  refine e2_4 (sl_ j a so h1 h2) λi so0 q1 q2 q3 er0=> ?_
  obtain rfl:=er0
  by_cases hd:so0=.dead
  ·subst hd;exact .inl rfl
  ·have hs:=J3d q2 q3 hd
   refine e1_1 ((JCR i a so0 q2 q3).in hd) λo ho'=> ?_
   exact .inr ((ho _ (inl q1 hs ho')).trans (gz hnd hs q1))
 ·intro j a so h1 h2
  refine e2_4 (sl_ j a so h1 h2) λi so0 q1 q2 q3 er1=> ?_
  obtain rfl:=er1
  by_cases hd:so0=.dead
  ·clear h2 q3
   subst hd;exact .dead
  ·exact (JCR i a so0 q2 q3).move mz (λe v z=>z.renR mz) (λb o hb q=>J0A _ (inl q1 hb q)) (λb o hb q=>(ho _ (inl q1 hb q)).trans (gz hnd hb q1)) (J3d q2 q3 hd)
def xi (own:Own) (N'':Led) (own'':Own) (ids:List Nat) (n0a:Nat):Own:=λa=>if a∈N''.map (·.1) then (match own'' a with
  | .fz=>.fz
  | .slot j=>.slot (bkN ids n0a j)
  |_=>.junk) else own a
set_option tactic.hygienic true in
theorem EVR.bkR {fz fz':FzP}{ρ ρ'':List Addr}(mz:∀a o,fz a o->fz' a o) (hl:J13<=ρ''.length) (hp:∀(j i:Nat),ids[j]? =some i->ρ''[j]? =ρ[i]?) {n0a:Nat}(hn:n0a=ρ.length) {e:EV}{v:Value}(q:EVR fz ρ'' e v):
  EVR fz' (ρ++ρ''.drop J13) (bk ids n0a e) v:=by
 cases q with
 |pv h=>exact .pv (J6l mz h)
 |bad v=>exact .bad v
 |loc h=>
  rename_i j a
  refine .loc ?_
  show (ρ++ρ''.drop J13)[bkN ids n0a j]? =some a
  unfold bkN
  rw[aZ]
  cases z:ids[j]? with
  |some i=>
   dsimp only
   rw[hp j i z] at h
   rw[J0W (EC h)];exact h
  |none=>
   have hj:J13<=j:=by
    refine J3a (J1Y j J13) (λy=> ?_) λy=> ?_
    ·rw[Jy y] at z;cases z
    ·exact y
   dsimp only
   rw[J0D (by exact z30 0x1102190801a1 hn),J26,<- h]
   congr 1;exact z60 0x100100000010010000010010000010010001001011001001011010101001110100102109a45391b025b20843a4 hn hj fS fS
theorem aA.leave (H:aA w Γ X st T vs h N own ρ m) (hi:okIds ids JK=true) {Γ':Nm}{L:Addr}{ca:List Addr}{st'':St}{ev:EV}{v:Value}{h'':Heap}{N'':Led}{own'':Own}{ρ'':List Addr}{m'':Str->Option Value}
  (R:aA w Γ' (JEO N own ρ ids (J3I h ((ledIn N own ids).map (·.1))) L ca) st'' [ev] [v] h'' N'' own'' ρ'' m'') (F:Fr X.g X.L h'' m) (NW:News X.g X.L h'' N''):
  aA w Γ X { st with sl:=wb ids (nQ (bk ids JK) J7S) J5 } (bk ids JK ev::T) (v::vs) h'' (fc N own ids++N'') (xi own N'' own'' ids JK) (ρ++ρ''.drop J13) m:=by
 refine e0_2 (gB hi) λhnd hlt=> ?_
 have new_:∀{a o},(a,o)∈N''->xi own N'' own'' ids JK a=(match own'' a with | .fz=>.fz| .slot j=>.slot (bkN ids JK j)|_=>.junk):=λ{a o} hm=>JC (J1o (az _ hm rfl))
 have out_:∀{a o},(a,o)∈fc N own ids->xi own N'' own'' ids JK a=own a:=λ{a o} hm=>JL λz=>by
  refine e1_2 (Ja z) λp hp e=> ?_
  have:=(JH p hp).2.2
  rw[e,JEj hm] at this;cases this
 have outm:∀{a o},(a,o)∈N->dH own ids a=false->(a,o)∈fc N own ids:=λhm hq=>fb.mpr ⟨hm,hq⟩
 have mzo:∀a o,aI JA N own a o->aI JA (fc N own ids++N'') (xi own N'' own'' ids JK) a o:=by
  rintro a o (q|⟨q1,q2⟩)
  ·exact .inl q
  ·have:=outm q1 (by unfold dH;rw[q2])
   exact .inr ⟨J06 _ this,(out_ this).trans q2⟩
 have mzn:∀a o,aI (aI JA N own) N'' own'' a o->aI JA (fc N own ids++N'') (xi own N'' own'' ids JK) a o:=by
  rintro a o (q|⟨q1,q2⟩)
  ·exact mzo a o q
  ·exact .inr ⟨J0A _ q1,by rw[new_ q1,q2]⟩
 have hpre:c6 ρ ids <+: ρ'':=R.pre
 have hl:J13<=ρ''.length:=by have:=hpre.length_le;rwa [gw] at this
 have hp:∀(j i:Nat),ids[j]? =some i->ρ''[j]? =ρ[i]? :=λj i hj=>by
  refine e1_1 (f0 (l:=ρ) (J6r▸hlt i (J01 hj))) λa ha=> ?_
  refine (ha).symm▸?_
  exact e8 hpre j a (by rw[eG,hj,J4m,iO ha])
 have hr:∀(i:Nat) (a:Addr),ρ[i]? =some a->(ρ++ρ''.drop J13)[i]? =some a:=e8 (J3q _ _)
 have bks:∀e v,EVR (aI (aI JA N own) N'' own'') ρ'' e v->EVR (aI JA (fc N own ids++N'') (xi own N'' own'' ids JK)) (ρ++ρ''.drop J13) (bk ids JK e) v:=λe v q=>q.bkR mzn hl hp J6r
 have hsl:J13<=(nQ (bk ids JK) J7S).length:=by rw[rZ,JBn];exact hl
 have cases_:∀(k:Nat) (a:Addr) (so:SO),(ρ++ρ''.drop J13)[k]? =some a->(wb ids (nQ (bk ids JK) J7S) J5)[k]? =some so->
   (ρ[k]? =some a/\J5[k]? =some so/\k∉ids)∨∃j so0,bkN ids JK j=k/\ρ''[j]? =some a/\J7S[j]? =some so0/\so=j2 (bk ids JK) so0:=by
  intro k a so h1 h2
  refine e0_3 (DP ids (nQ (bk ids JK) J7S) J5 k hsl hnd hlt) λwa wc wd=> ?_
  by_cases hk:k∈ids
  ·refine e1_1 (J15 hk) λj hj=> ?_
   rw[wa j hj,r7] at h2
   cases q:J7S[j]? with
   |none=>rw[q] at h2;cases h2
   |some so0=>
    rw[q] at h2
    refine .inr (dL j so0 (by unfold bkN;rw[aZ,hj]) ?_ q ((JT h2).symm))
    rw[hp j k hj,<- h1,J0W (J6r▸hlt k hk)]
  ·by_cases hl':k<JK
   ·rw[wc hk hl'] at h2
    rw[J0W (J6r▸hl')] at h1
    exact .inl (i_aa h1 h2 hk)
   ·have hg:JK<=k:=J82 hl'
    rw[wd hg,r7] at h2
    cases q:J7S[J13+(k - JK)]? with
    |none=>rw[q] at h2;cases h2
    |some so0=>
     rw[q] at h2
     refine .inr (dL (J13+(k - JK)) so0 ?_ ?_ q ((JT h2).symm))
     ·unfold bkN
      rw[aZ,J0H (by omega)]
      dsimp only;exact z50 0x10010000100100010010001001010010101001011010101101002109a43491b023b02933 hl' fS fS
     ·rw[J0D (by have:=J6r;exact z30 0x110110802a21932 hl' this),J26] at h1
      rw[<- h1];congr 1;have:=J6r;exact z60 0x1010001001001010000011000110111001111001100100011011001101011001209109a452b351b43a3 this fS fS
 refine⟨F,?_,?_,?_,?_,?_,?_,?_,JHT (J3q _ _),.cons ?_ (J5L mzo hr),?_,JD5⟩
 ·intro p hp'
  rcases J08 hp' with q|q
  ·exact⟨J0v _ _ (JEj q),(JD4 p (fb.mp q).1).2⟩
  ·exact NW p q
 ·intro i x e h1 h2
  refine e1_2 (JHV i x e h1 h2) λv q1 q2=> ?_
  exact (az v q1 (J5p mzo hr))
 ·intro i c h1
  obtain⟨q1,o,ov,q2,q3,q4⟩:=JHY i c h1
  have:=outm q2 (by unfold dH;rw[q1])
  exact (cD ((out_ this).trans q1) o ov (J06 _ this) q3 (λe z=>let ⟨v,y1,y2⟩:=q4 e z;(az v y1 (JDY mzo hr))))
 ·intro c h1
  obtain⟨q1,o,es,ep,q2,q3,q5,q4⟩:=JHX c h1
  have:=outm q2 (by unfold dH;rw[q1])
  exact (bU ((out_ this).trans q1) o es ep (J06 _ this) q3 q5 (λi x e y1 y2=>let ⟨v,z1,z2⟩:=q4 i x e y1 y2;(az v z1 (J44 mzo hr))))
 ·intro k a so h1 h2
  rcases cases_ k a so h1 h2 with⟨q1,q2,q3⟩|⟨j,so0,rfl,q1,q2,rfl⟩
  ·rcases JBv k a so q1 q2 with z|z
   ·exact .inl z
   ·by_cases hd:so=.dead
    ·exact .inl hd
    ·refine e1_1 ((JCR k a so q1 q2).in hd) λo ho=> ?_
     have:=outm ho (by
      cases y:dH own ids a with
      |false=>rfl
      |true=>obtain⟨i,y1,y2⟩:=jB.mp y;rw[z] at y1;cases y1;exact absurd y2 q3)
     exact .inr ((out_ this).trans z)
  ·by_cases hd:so0=.dead
   ·clear h1 h2
    subst hd;exact .inl rfl
   ·refine e1_1 ((J96 j a so0 q1 q2).in hd) λo ho=> ?_
    exact .inr (by rw[new_ ho,J2h q1 q2 hd])
 ·show (wb ids (nQ (bk ids JK) J7S) J5).length=_
  rw[DO _ _ _ hsl,rZ,JBn,JO,J3R,J6r]
 ·intro k a so h1 h2
  rcases cases_ k a so h1 h2 with⟨q1,q2,q3⟩|⟨j,so0,rfl,q1,q2,rfl⟩
  ·by_cases hd:so=.dead
   ·clear h1 h2 q2
    subst hd;exact .dead
   ·have inf:∀b,own b=.slot k->dH own ids b=false:=λb hb=>by
     cases y:dH own ids b with
     |false=>rfl
     |true=>obtain⟨i,y1,y2⟩:=jB.mp y;rw[hb] at y1;cases y1;exact absurd y2 q3
    exact (JCR k a so q1 q2).mono mzo hr (λb o hb q=>J06 _ (outm q (inf b hb))) (λb o hb q=>out_ (outm q (inf b hb))) (J3d q1 q2 hd)
  ·by_cases hd:so0=.dead
   ·clear h1 h2
    subst hd;exact .dead
   ·exact (J96 j a so0 q1 q2).move mzn bks (λb o u q=>J0A _ q) (λb o hb q=>by rw[new_ q,hb]) (J2h q1 q2 hd)
 ·refine e0_2 Jg λq u=> ?_
  exact bks _ _ q
 ·intro p hp'
  refine e0_2 (J3H p hp') λq1 q2=> ?_
  have:=outm q1 (by unfold dH;rw[q2])
  exact⟨J06 _ this,(out_ this).trans q2⟩
end
def D5 (n k:Nat):List Nat:=J6n k n
def gcIds (n0a:Nat) (sl:List SO) (e:EV):List Nat:=k6 64 sl (D5 n0a 0++Ai e) []
def iD (n:Nat):Nat->List Nat->Bool:=J64 (motive:=λy=>Nat->List Nat->Bool) (λy y=>true) (λy q k l=>match l with
 |i::r=>cond (J1z i k) (q (k+1) r) false
 |[]=>false) n
def CN (n0a:Nat) (e:EV) (sl:List SO) (P:EV->List SO->Prop):Prop:=match okIds (gcIds n0a sl e) J4c with
 |true=>(match iD n0a 0 (gcIds n0a sl e) with
  |true=>P (ren (gcIds n0a sl e) e) (fY (ren (gcIds n0a sl e)) sl (gcIds n0a sl e))
  |false=>False)
 |false=>False
def nM (n0a:Nat) (P:EV->List SO->Prop) (f:Fl) (st:St):Prop:=match f with
 | .ret e=>CN n0a e J5 P
 | .next=>CN n0a (.pv .none) J5 P
 | .brk=>False
 | .cont=>False
theorem j0 {n:Nat}:∀{k:Nat}{l:List Nat},iD n k l=true->∀(i:Nat),i<n->l[i]? =some (k+i):=by
 induction n with
 |zero=>exact λy i hi=>absurd hi (JEa _)
 |succ n ih=>
  intro k l h i hi
  cases l with
  |nil=>cases h
  |cons j r=>
   have h:cond (J1z j k) (iD n (k+1) r) false=true:=h
   cases q:J1z j k with
   |false=>rw[q] at h;cases h
   |true=>
    rw[q] at h
    cases i with
    |zero=>exact JD some (J19 q)
    |succ i=>exact (ih h i (J41 hi)).trans (JD some (J2O k i))
theorem rf {ρ0 ρ:List Addr}{ids:List Nat}(hp:ρ0 <+: ρ) (h:iD ρ0.length 0 ids=true):ρ0 <+: c6 ρ ids:=by
 have hl:ρ0.length<=J13:=by
  rcases J1Y J13 ρ0.length with q|q
  ·have:=j0 h J13 q
   rw[J0H (Jb _)] at this;cases this
  ·exact q
 have he:∀(i:Nat),i<ρ0.length->(c6 ρ ids)[i]? =ρ0[i]? :=λi hi=>by
  rw[eG,j0 h i hi,J4z,J4m]
  refine e1_1 (f0 hi) λa ha=> ?_
  rw[ha,iO (e8 hp i a ha)]
 refine List.prefix_iff_eq_take.mpr (J3B λi=> ?_)
 rw[J1i]
 by_cases q:i<ρ0.length
 ·rw[JC q,he i q]
 ·rw[JL q,J0H (J82 q)]
def hZ (evs:List EV):List (Option Nat)->List (Option EV)
 |[]=>[]
 |none::r=>none::hZ evs r
 |some j::r=>nth evs j::hZ evs r
theorem rt (evs:List EV) {l:List (Option Nat)}:∀{i:Nat}{e:EV},(hZ evs l)[i]? =some (some e)->∃j,l[i]? =some (some j)/\evs[j]? =some e:=by
 induction l with
 |nil=>exact λh=>nomatch h
 |cons o r ih=>
  intro i e h
  cases i with
  |zero=>cases o with
   |none=>cases h
   |some j=>exact (az j rfl (JT h))
  |succ i=>cases o<;>exact ih (i:=i) h
def io (names:List Str):List Str->List (Option Nat)->Bool
 |_,[]=>true
 |[],_::_=>true
 |_::xs,none::r=>io names xs r
 |x::xs,some j::r=>nth names j==some x&&io names xs r
theorem mB {names xs:List Str}:∀{l:List (Option Nat)},io names xs l=true->∀{i j:Nat}{x:Str},xs[i]? =some x->l[i]? =some (some j)->names[j]? =some x:=by
 induction xs with
 |nil=>intro l h i j x h1 h2;cases h1
 |cons y xs ih=>
  intro l h i j x h1 h2
  cases l with
  |nil=>cases h2
  |cons o r=>cases o with
   |none=>cases i with
    |zero=>cases h2
    |succ i=>exact ih (l:=r) h h1 h2
   |some k=>cases i with
    |zero=>
     cases h1;cases h2
     exact JA1 (J07 h).1
    |succ i=>exact ih (l:=r) (J07 h).2 h1 h2
theorem vd {kindOf:Str->Option J1T}{x:Str}{binds:List (Str×Value)}:∀{m:Str->Option Value},x∉binds.map (·.1)->bindL kindOf binds m x=m x:=by
 induction binds with
 |nil=>exact λy=>rfl
 |cons p r ih=>
  intro m h
  refine (ih λq=>h (Jk _ q)).trans ?_
  split
  ·exact JL λq=>h (by rw[q];exact JB)
  ·rfl
theorem vf {kindOf:Str->Option J1T}{x:Str}{binds:List (Str×Value)}:∀{m:Str->Option Value},x∉binds.map (·.1)->bindC kindOf binds m x=m x:=by
 induction binds with
 |nil=>exact λy=>rfl
 |cons p r ih=>
  intro m h
  refine (ih λq=>h (Jk _ q)).trans ?_
  split
  ·rfl
  ·exact JL λq=>h (by rw[q];exact JB)
theorem o6 {kindOf:Str->Option J1T}{x:Str}{v:Value}{names:List Str}:∀{vals:List Value}{m:Str->Option Value}{j:Nat},JBa->names[j]? =some x->vals[j]? =some v->kindOf x=some .local->bindL kindOf (JAc vals) m x=some v:=by
 induction names with
 |nil=>exact λy h=>nomatch h
 |cons n ns ih=>
  intro vals m j hn h1 h2 hk
  cases vals with
  |nil=>cases h2
  |cons v' vs=>
   cases j with
   |zero=>
    cases h1;cases h2
    show bindL kindOf (ns.zip vs) _ x=_
    refine (vd λq=> ?_).trans (by rw[JC hk,JC rfl])
    refine e1_2 (Ja q) λp hp e=> ?_
    exact (J0S hn).1 (e▸(J8s hp).1)
   |succ j=>exact ih (J0S hn).2 h1 h2 hk
theorem xT {kindOf:Str->Option J1T}{x:Str}{v:Value}{names:List Str}:∀{vals:List Value}{m:Str->Option Value}{j:Nat},JBa->names[j]? =some x->vals[j]? =some v->kindOf x≠some .local->bindC kindOf (JAc vals) m x=some v:=by
 induction names with
 |nil=>exact λy h=>nomatch h
 |cons n ns ih=>
  intro vals m j hn h1 h2 hk
  cases vals with
  |nil=>cases h2
  |cons v' vs=>
   cases j with
   |zero=>
    cases h1;cases h2
    show bindC kindOf (ns.zip vs) _ x=_
    refine (vf λq=> ?_).trans (by rw[JL hk,JC rfl])
    refine e1_2 (Ja q) λp hp e=> ?_
    exact (J0S hn).1 (e▸(J8s hp).1)
   |succ j=>exact ih (J0S hn).2 h1 h2 hk
theorem EVs.get {fz:FzP}{ρ:List Addr}{es:List EV}{vs:List Value}(h:EVs fz ρ es vs):∀{j:Nat}{e:EV},es[j]? =some e->∃v,vs[j]? =some v/\EVR fz ρ e v:=by
 induction h with
 |nil=>intro j e h;cases h
 |cons h _ ih=>
  intro j e q
  cases j with
  |zero=>cases q;exact (az _ rfl h)
  |succ j=>exact ih q
theorem CellsAre.get {cm:Str->Option Value}{cs:List (Str×Addr)}{cells:Led}(h:JFv cm cs cells):∀{i:Nat}{x:Str}{c:Addr},cs[i]? =some (x,c)->∃o,(c,o)∈cells/\J2v=.cell (cm x):=by
 induction h with
 |nil=>intro i x c h;cases h
 |cons hd _ ih=>
  intro i x c q
  cases i with
  |zero=>cases q;exact (az _ JB hd)
  |succ i=>obtain⟨o,z1,z2⟩:=ih q;exact (az o (Jk _ z1) z2)
theorem F9 {prog:J3Z}{w:World}{A0a A:J7}{s:J1}{base h₀:Heap}{outer:List Env}{L:Addr}{m:Str->Option Value}{env:Env}{news:Led}
  {R:J4y->J1->Prop}{name qual:Str}{params:JEu}{body:List Stmt}{scope:Scope}{dV kV doc pm cdv ct:Value}{an:Option Addr}{fo:Obj}{f:Addr}{args:Args}{binds:List (Str×Value)}
  (B:Below A0a base outer h₀) (F:Fr h₀ L JG m) (N:News h₀ L JG news) (lim:h₀.NoLimit) (hA:J3w=some (env::outer)) (hf:J3M=some L) (hke:J1O=.function)
  (ho:Jr f=some fo) (hd:fo.data=.func (fnOf name qual params body scope dV kV doc pm an cdv ct)) (hcd:J9A cdv qual) (room:J6u<J27)
  (hbind:JEt s (fnOf name qual params body scope dV kV doc pm an cdv ct) args binds)
  (hkind:∀n,∀x∈binds,J21 x.1=some .local∨(J21 x.1=some .cell/\((cellsFrom n J17 []).lookup x.1).isSome=true))
  (hnd:((cellsFrom 0 J17 []).map (·.1)).Nodup)
  (h:∀(KK:Value->J1->Prop),(∀v s',R (.ok (.ret v)) s'->KK v s')->(∀v s',LeaveK h₀ L m (J3I JG (J9s (·.1))) R v s'->KK v s')->∀L' h1a tk cells,Fr (J3I JG (J9s (·.1))) L' h1a (bindL (J4R qual scope L' f cdv).kindOf binds λk=>none)->News (J3I JG (J9s (·.1))) L' h1a (cells++news)->
   JFv (bindC (J4R qual scope L' f cdv).kindOf binds λk=>none) (cellsFrom (L'+1) J17 []) cells->Below A base (env::outer) (J3I JG (J9s (·.1)))->(∀p∈news,p.1<L')->
   ae (model prog w) (J2G (J4R qual scope L' f cdv)) (execs body (J4R qual scope L' f cdv))
    (λfl s'=>KK (match fl with | .ret v=>v|_=>.none) s')
    (λe s'=>ae (model prog w) (J2G (J4R qual scope L' f cdv)) (J5N (J4R qual scope L' f cdv) e) (λk s''=>R (.error e) s'') (λe' s''=>R (.error e') s'') s')
    { s with heap:=h1a,toks:=tk })
  (hco:J7W=false) (hgen:J7V=false) (hk:J7U=.function):aC (model prog w) A (.call (.ref f) args) R s:=by
 refine e0_4 (groundX (R:=R) B F N hA hf hke) λk BG k lv=> ?_
 refine c8 room ho hd hco hgen rfl hcd (av (hbind _ _ _ _ (av (J93 hk (hkind _) λenv' he s' x=> ?_))))
 subst he
 refine⟨(lim.keeps J6Y).keeps J5j,i4 ?_⟩
 refine e2_2 x.done λh1a tk er0 k=> ?_
 obtain rfl:=er0
 have kp:=J5j
 refine e1_2 (Cl.news (h₀:=JG) (Jb _) λn c hm=>⟨x.cell n c (J6d (J8d J17 0 (JS+1) [] [] rfl▸hnd) hm),x.above n c hm⟩) λcells NC Y=> ?_
 refine ag (h (λv s'=>R (.ok (.ret v)) s') (λk k z=>z) lv JS h1a tk cells ⟨JFF,λb o e=>kp b o (J6F _ e),J2z (JGC _ _)⟩ (λp hp=> ?_) Y BG (λp hp=>Jo (N p hp).1)) (λfl s' hl=>hl) λk k y=>y
 rcases J08 hp with q|q
 ·refine (i_aa ((NC p q).1) ((NC p q).2.1) ?_)
  cases z:(J3I JG (J9s (·.1))).get? p.1 with
  |none=>rfl
  |some o=>have:=J6F _ z;rw[(NC p q).2.2] at this;cases this
 ·exact (i_aa (kp _ _ (N p q).1) (J0O (Jo (N p q).1)) (J5u _ (J0n q)))
def ac (n:Nat) (a:Addr) (k:Nat) (spec:jb):Prop:=
 ∀{{w:World}} {{A:J7}} {{Γ:Nm}} {{X:Fx}},BOk w X->AOk A X n->∀{{st:St}} {{T:List EV}} {{vs:List Value}} {{args:List EV}} {{ws:List Value}} {{s:J1}} {{h:Heap}} {{t:Nat}} {{R:J4y->J1->Prop}} {{P:EV->St->Prop}},
  J1J=Jx->J1J=k->Rel w Γ X st (args++T) (ws++vs) h->qF spec args st P->(∀ev v st' h' t',Rel w Γ X st' (ev::T) (v::vs) h'->P ev st'->R (.ok (.ret v)) (At s h' t'))->
   aC (model prog0 w) A (.call (.ref a) ⟨ws,[]⟩) R (At s h t)
structure aG (Γ:Nm) (names:List Str) (li ci:List (Option Nat)) (scope:Scope):Prop where
 nm:NmOk Γ
 snm:J17=Γ.nm
 comp:Γ.comp=false
 nd:JBa
 cn:(cellsFrom 0 Γ.nm []).map (·.1)=Γ.cn
 cnd:Γ.cn.Nodup
 lo:io names Γ.ln li=true
 ce:io names Γ.cn ci=true
 lk:∀x∈Γ.ln,(x,J4B)∈Γ.nm
 ck:∀x∈Γ.cn,(x,J1S)∈Γ.nm
 al:∀x∈names,(x,J4B)∈Γ.nm∨(x,J1S)∈Γ.nm
 co:J7W=false
 gen:J7V=false
 kind:J7U=.function
theorem i5 (names:List (Str×J1T)) (n:Nat):(cellsFrom n names []).map (·.1)=(cellsFrom 0 names []).map (·.1):=J8d names n 0 [] [] rfl
theorem gc (names:List (Str×J1T)):∀(n lo:Nat) (acc:List (Str×Addr)),lo<=n->(∀c∈JBj (·.2),lo<=c/\c<n)->(JBj (·.2)).Nodup->
  ((cellsFrom n names acc).map (·.2)).Nodup/\∀c∈(cellsFrom n names acc).map (·.2),lo<=c:=by
 induction names with
 |nil=>exact λn lo acc y h hn=>⟨hn,λc hc=>(h c hc).1⟩
 |cons p r ih=>
  intro n lo acc hl h hn
  unfold cellsFrom
  split
  ·refine ih (n+1) lo _ (J39 hl) (λc hc=> ?_) ?_
   ·rcases Jf hc with rfl|hc
    ·exact⟨hl,J1n _⟩
    ·exact⟨(h c hc).1,J38 (h c hc).2⟩
   ·exact J1c ⟨λq=>J0V _ (h _ q).2,hn⟩
  ·exact ih n lo acc hl h hn
theorem iQ {l:List (Str×Addr)}(hn:(JE (·.1)).Nodup):∀{i:Nat}{x:Str}{c:Addr},l[i]? =some (x,c)->l.lookup x=some c:=λ{i x c} h=>J6d hn (J01 h)
structure BD (w:World) (A:J7) (Γf:Nm) (X X':Fx) (h:Heap) (env':Env) (n:Nat) (hid:Bool):Prop where
 cx:Cx w (J2G env') env' Γf X' n
 k:X'.K=X.K
 fr:env'.frame=some X'.L
 old:∀b o,J1s b=some o->JEQ b=some o
 le:∀b o,JEQ b=some o->JN b=some o
 all:hid=false->∀b o,JN b=some o->JEQ b=some o
 bel:∃base outer,Below A base outer X'.g/\J3w=some outer
 dep:J6u+3*(n+1)<900
theorem AY {n:Nat}{a:Addr}{k:Nat}{names:List Str}{dfl:List Value}{dflE:List EV}{qual:Str}{body:List Stmt}{scope:Scope}{Γf:Nm}{li ci:List (Option Nat)}
  (hK:∀w K,KOk w K->nh K a k names dfl qual body scope) (hD:aG Γf names li ci scope) (hdf:∀fz ρ,EVs fz ρ dflE dfl)
  {w:World}{A:J7}{Γ:Nm}{X:Fx}(B:BOk w X) (AO:AOk A X (n+1)) {st:St}{T:List EV}{vs:List Value}{args:List EV}{ws:List Value}{s:J1}{h:Heap}{t:Nat}{R:J4y->J1->Prop}{P:EV->St->Prop}
  (hl:J1J=Jx) (hk:J1J=k) (H:Rel w Γ X st (args++T) (ws++vs) h) {ids:List Nat}(hids:fX J5 args=ids) (hok:okIds ids JK=true)
  (hR:∀ev v st' h' t',Rel w Γ X st' (ev::T) (v::vs) h'->P ev st'->R (.ok (.ret v)) (At s h' t'))
  (hb:∀{X':Fx}{env':Env}{h1a:Heap}{tk:Nat}{KK:Value->J1->Prop},(∀v s',R (.ok (.ret v)) s'->KK v s')->
   (∀{st':St}{e:EV}{v:Value}{h':Heap}{t':Nat},Rel w Γf X' st' [e] [v] h'->CN (fY (ren ids) J5 ids).length e st'.sl (λr sl2=>P (bk ids JK r) { st with sl:=wb ids (nQ (bk ids JK) sl2) J5 })->KK v (At s h' t'))->BD w A Γf X X' h env' n (!ids.isEmpty)->Rel w Γf X' { lo:=hZ (gL (ren ids) args++dflE) li,ce:=hZ (gL (ren ids) args++dflE) ci,co:=[],sl:=fY (ren ids) J5 ids } [] [] h1a->
   ae (model prog0 w) (J2G env') (execs body env') (λfl s'=>KK (match fl with | .ret v=>v|_=>.none) s')
    (λe s'=>ae (model prog0 w) (J2G env') (J5N env' e) (λy s''=>R (.error e) s'') (λe' s''=>R (.error e') s'') s') (At s h1a tk))
  (htop:Jl (Γf.top=false) Jn):aC (model prog0 w) A (.call (.ref a) ⟨ws,[]⟩) R (At s h t):=by
 refine J9 H λN own ρ m RW=> ?_
 refine e0_2 (J1N hl RW.tmp) λhargs hT=> ?_
 refine e0_2 (gB hok) λhnd hlt=> ?_
 obtain⟨oc,od,osl,name,params,dV,kV,doc,pm,an,cdv,ct,hlk,hcd,hbind⟩:=hK w X.K JHd
 obtain⟨A0a,base,outer,fenv,hB,hA,hf,hke⟩:=AO.below
 obtain⟨pT,mg,mb,loose,TR⟩:=B.top
 have KI:JCL h:=JDB RW.fr.keep
 have hdep:=AO.dep
 have hun:=AO.un
 refine F9 (s:=At s h t) (fo:=⟨oc,od,.func (fnOf name qual params body scope dV kV doc pm an cdv ct),osl⟩) hB RW.fr (RW.newsIn (ids:=ids)) TR.nolimit hA hf hke (KI _ _ hlk) rfl (JCn KI hcd) (by unfold J27;exact z20 0x113e83f8093843f818193b0991 hdep) (hbind _ KI ws (hl▸hk)) ?_ ?_ ?_ hD.co hD.gen J9v
 ·intro q x hx
  have hm:=(J8s hx).1
  rcases hD.al _ hm with z|z
  ·exact .inl (by rw[J5b];exact J89 _ z)
  ·refine .inr ⟨by rw[J5b];exact J89 _ z,cellsFrom_some _ _ _ (.inl ?_)⟩
   rw[J5b];exact J89 _ z
 ·rw[J5b,hD.cn];exact JGE
 ·intro KK inj lvK L' h1a tk cells F' N' CA B' hlow
  have hcs:(cellsFrom (L'+1) Γf.nm []).map (·.1)=Γf.cn:=(i5 _ _).trans hD.cn
  have kind_:∀{x:Str}{kd:J1T},(x,kd)∈Γf.nm->(J4R qual scope L' a cdv).kindOf x=some kd:=λ{x kd} z=>by
   show J21 x=_
   rw[J5b];exact J89 _ z
  refine e0_2 (gc Γf.nm (L'+1) (L'+1) [] (Jb _) (λc hc=>by cases hc) J1B) λcsn csl=> ?_
  rw[J5b] at CA
  generalize hcs':cellsFrom (L'+1) Γf.nm []=cs at *
  have apart:∀p∈ledIn N own ids,p.1∉J75 (·.2):=λp hp q=>by
   have h1:L'+1<=p.1:=csl _ q
   have h2:p.1<L':=hlow p hp
   exact absurd (J0d h2 (Nat.le_of_succ_le h1)) (J0V _)
  have hall:EVs (aI JA N own) (c6 ρ ids) (gL (ren ids) args++dflE) (ws++dfl):=(hargs.renR (λy y z=>z)).append ((hdf (aI JA N own) (c6 ρ ids)))
  have Renter:=RW.enter hok (Γ':=Γf) (ca:=J75 (·.2)) (lo:=hZ (gL (ren ids) args++dflE) li) (ce:=hZ (gL (ren ids) args++dflE) ci) (co:=[]) (cells:=cells)
   (own':=λa=>match kQ a (J75 (·.2)) with |some i=>.cell i|none=>lS own ids a) F' N'
   (λp hp=>by
    cases q:kQ p.1 (J75 (·.2)) with
    |none=>rfl
    |some i=>exact absurd (J01 (o0 q)) (apart p hp))
   (λi c hc=>by
    refine⟨by show (match kQ c (J75 (·.2)) with |some i=>Lab.cell i|none=>lS own ids c)=_;rw[pY csn hc],?_⟩
    rw[JR] at hc
    refine e1_2 (Jw hc) λen0 q1 q2=> ?_
    obtain⟨x,c'⟩:=en0
    dsimp only at q2
    rw[<- q2]
    refine e1_2 (JGh CA q1) λo z1 z2=> ?_
    refine (l7 o _ z1 z2 (λe he=> ?_))
    refine e1_2 (rt _ he) λj y1 y2=> ?_
    have hx:Γf.cn[i]? =some x:=by rw[<- hcs,JR,q1];rfl
    refine e1_2 (JHZ hall y2) λv u1 u2=> ?_
    refine (az v (xT hD.nd (mB hD.ce hx y1) u1 ?_) u2)
    refine (kind_ (hD.ck x (J01 hx))).symm▸?_
    exact λz=>by cases z)
   (λi x e hx he=>by
    refine e1_2 (rt _ he) λj y1 y2=> ?_
    refine e1_2 (JHZ hall y2) λv u1 u2=> ?_
    exact (az v (o6 hD.nd (mB hD.lo hx y1) u1 (kind_ (hD.lk x (J01 hx)))) u2))
  have C:Cx w (J2G (J4R qual scope L' a cdv)) (J4R qual scope L' a cdv) Γf (JEO N own ρ ids (J3I h ((ledIn N own ids).map (·.1))) L' (J75 (·.2))) n:=by
   have AO':AOk (J2G (J4R qual scope L' a cdv)) (JEO N own ρ ids (J3I h ((ledIn N own ids).map (·.1))) L' (J75 (·.2))) n:=
    ⟨⟨A,base,fenv::outer,J4R qual scope L' a cdv,B',by show A.frames.map _=_;rw[hA];rfl,rfl,J9v⟩,by show J6u+1+3*n<900;exact z20 0x113843f813b1809993843f818193b0991 hdep,by show J4u+3+20*n+300<cLine;exact z30 0x11212c3f81142fb3809999212c3f81819142fb09991 hun,JHe⟩
   refine⟨RW.bok B,AO',hD.nm,J9v,J5b,rfl,rfl,rfl,λy=>rfl,λz=>(by rw[hD.comp] at z;cases z),?_,λy=>rfl,λz=>(by rw[htop] at z;cases z)⟩
   ·intro i x hx hm
    rw[<- hcs,JR] at hx
    refine e1_2 (Jw hx) λen1 q1 q2=> ?_
    obtain⟨x',c⟩:=en1
    refine JGw▸?_
    refine (az c (by rw[JR,q1];rfl) ?_)
    show (cellsFrom (L'+1) J17 []).lookup x'=_
    refine (J5b).symm▸?_
    refine (hcs').symm▸?_
    exact iQ (hcs▸JGE) q1
  have hpl:(fY (ren ids) J5 ids).length=(c6 ρ ids).length:=by rw[lO,gw]
  refine hb inj (λ{st' e v h' t'} HR hg=>lvK _ _ ?_) ⟨C,rfl,rfl,λb o e=>RW.base_get e,λb o e=>J6F _ e,λhz b o e=> ?_,(eJ base (fenv::outer) B' hA),by omega⟩ ⟨_,_,_,_,Renter⟩
  ·refine J9 HR λN2a own2 ρ2a m2a R2a=> ?_
   unfold CN at hg
   generalize gcIds _ _ _=gi at hg
   cases g1:okIds gi st'.sl.length with
   |false=>rw[g1] at hg;exact hg.elim
   |true=>
   rw[g1] at hg
   cases g2:iD (fY (ren ids) J5 ids).length 0 gi with
   |false=>rw[g2] at hg;exact hg.elim
   |true=>
   replace hg:=(g2)▸hg
   rw[hpl] at g2
   have R3a:=R2a.pickR g1 (rf R2a.pre g2)
   refine (cC L' m2a N2a R2a.fr R2a.nw (λF3 N3=> ?_))
   exact hR _ _ _ h' t' ⟨_,_,_,_,RW.temps hT |>.leave hok R3a F3 N3⟩ hg
  have hid:ids=[]:=by cases ids with |nil=>rfl|cons _ _=>cases hz
  refine hid.symm▸?_
  have hem:ledIn N own []=[]:=List.filter_eq_nil_iff.mpr λp hp=>by
   unfold dH;split<;>simp [nT]
  show (J3I h ((ledIn N own []).map (·.1))).get? b=some o
  rw[hem];exact e
theorem CW {n:Nat}{a:Addr}{k:Nat}{names:List Str}{dfl:List Value}{dflE:List EV}{qual:Str}{body:List Stmt}{scope:Scope}{Γf:Nm}{li ci:List (Option Nat)}{vc:VC Fl}{spec:jb}
  (hK:∀w K,KOk w K->nh K a k names dfl qual body scope) (hD:aG Γf names li ci scope) (hdf:∀fz ρ,EVs fz ρ dflE dfl) (hb:mK Γf n body vc)
  (hs:∀args sl P,J1J=k->spec args sl P->vc { lo:=hZ (args++dflE) li,ce:=hZ (args++dflE) ci,co:=[],sl:=sl } (nM J4c P)) (htop:Jl (Γf.top=false) Jn):ac (n+1) a k spec:=by
 intro w A Γ X B AO st T vs args ws s h t R P hl hk H hv hR
 obtain⟨hok,hv⟩:=Bl hv
 refine AY hK hD hdf B AO hl hk H rfl hok hR (λ{X' env' h1a tk KK} inj fin I R1=> ?_) htop
 refine ag (hb I.cx R1 (hs _ _ _ (Af _ _ |>.trans hk) hv) (s:=s) (t:=tk) (E:=λe s'=>ae (model prog0 w) (J2G env') (J5N env' e) (λy s''=>R (.error e) s'') (λe' s''=>R (.error e') s'') s')) (λf s' hf'=> ?_) λy y z=>z
 obtain⟨st',h',t',rfl,hf'⟩:=hf'
 cases f with
 |ret v=>obtain⟨ev,q1,q2⟩:=hf';exact fin q1 q2
 |next=>exact fin (hf'.1.push λy y=>.pv .none) hf'.2
 |brk=>exact hf'.2.elim
 |cont=>exact hf'.2.elim
section
variable {w:World}{Γ:Nm}{X:Fx}{st:St}{T:List EV}{vs:List Value}{h:Heap}{N:Led}{own:Own}{ρ:List Addr}{m:Str->Option Value}
theorem aA.allocFz (H:aA w Γ X st T vs h N own ρ m) (o:Obj) (ho:Jl (J71=false) Jn):aA w Γ X st T vs (J2R o) ((JM,o)::N) (oU own JM .fz) ρ m:=
 H.add (J4C (dh JD4)) (H.fr.push o) (H.nw.push H.fr o ho)
theorem aA.fzNew {o:Obj}:aI JA ((JM,o)::N) (oU own JM .fz) JM o:=.inr ⟨JB,br⟩
theorem aA.newFz0 (R:aA w Γ X st T vs h N own ρ m) (o:Obj) (ho:J71=false) {p:PV}(q:∀fz':FzP,(∀a o,aI JA N own a o->fz' a o)->fz' JM o->PR fz' p (.ref JM)):
  Rel w Γ X st (.pv p::T) (.ref JM::vs) (J2R o):=by
 have R':=R.allocFz o ho
 exact⟨_,_,_,_,J1e (.cons (.pv (q _ ((J4C (dh JH)).fz (F:=JA)) aA.fzNew)) J7o)⟩
theorem aA.newFz2 {a b:EV}{va vb:Value}(R:aA w Γ X st (b::a::T) (vb::va::vs) h N own ρ m) (o:Obj) (ho:J71=false) {p:PV}(q:∀fz':FzP,(∀a o,aI JA N own a o->fz' a o)->fz' JM o->PR fz' p (.ref JM)):
  Rel w Γ X st (.pv p::T) (.ref JM::vs) (J2R o):=by
 refine e0_3 J14 λy y z=> ?_
 exact (Jj z).newFz0 o ho q
theorem aA.fzGet (B:BOk w X) (H:aA w Γ X st T vs h N own ρ m) {a:Addr}{o:Obj}(q:aI JA N own a o):JN a=some o:=by
 rcases q with q|⟨q,_⟩
 ·exact JEl _ _ (B.fz a o q)
 ·exact (JD4 _ q).1
end
theorem PRs.append {fz:FzP}{ps qs:List PV}{vs ws:List Value}(h:PRs fz ps vs) (h':PRs fz qs ws):PRs fz (ps++qs) (vs++ws):=by
 induction ps generalizing vs with
 |nil=>cases h;exact h'
 |cons p ps ih=>cases h with |cons a b=>exact .cons a (ih b)
theorem PRs.len {fz:FzP}{ps:List PV}:∀{vs:List Value},PRs fz ps vs->Jt=J5l:=by
 induction ps with
 |nil=>intro vs h;cases h;rfl
 |cons p ps ih=>
  intro vs h
  refine e2_3 J7n λv r er a b=> ?_
  exact er▸JD J7C (ih b)
theorem PRs.get {fz:FzP}{ps:List PV}:∀{vs:List Value},PRs fz ps vs->∀{i:Nat}{p:PV},ps[i]? =some p->∃v,vs[i]? =some v/\PR fz p v:=by
 induction ps with
 |nil=>intro vs h i p q;cases q
 |cons p ps ih=>
  intro vs h i p' q
  refine e2_3 J7n λv r er a b=> ?_
  refine JHF▸?_
  cases i with
  |zero=>exact⟨v,rfl,JT q▸a⟩
  |succ i=>exact ih b (i:=i) q
def on2 {α:Type}(f:EV->Option α) (a b:EV) (k:α->α->Prop):Prop:=aj (f a) λx=>aj (f b) λy=>k x y
theorem gT {α:Type}{f:EV->Option α}{a b:EV}{k:α->α->Prop}(h:on2 f a b k):∃x y,f a=some x/\f b=some y/\k x y:=by
 refine e1_2 (ah h) λx q h=> ?_
 refine e1_2 (ah h) λy r h=> ?_
 exact (l7 x y q r h)
def bA:EV->Option Int
 | .pv (.int i)=>some i
 |_=>none
def eT:EV->Option Str
 | .pv (.str i)=>some i
 |_=>none
def cG:EV->Option (List UInt8)
 | .pv (.bytes i)=>some i
 |_=>none
def i8:EV->Option (List PV)
 | .pv (.tup i)=>some i
 |_=>none
theorem i9 {e:EV}{i:Int}(q:bA e=some i):e=.pv (.int i):=by
 cases e with
 |pv p=>cases p<;>cases q;rfl
 |_=>cases q
theorem wm {e:EV}{i:Str}(q:eT e=some i):e=.pv (.str i):=by
 cases e with
 |pv p=>cases p<;>cases q;rfl
 |_=>cases q
theorem ya {e:EV}{i:List UInt8}(q:cG e=some i):e=.pv (.bytes i):=by
 cases e with
 |pv p=>cases p<;>cases q;rfl
 |_=>cases q
theorem qN {e:EV}{i:List PV}(q:i8 e=some i):e=.pv (.tup i):=by
 cases e with
 |pv p=>cases p<;>cases q;rfl
 |_=>cases q
section
variable {fz:FzP}{ρ:List Addr}{e:EV}{v:Value}
theorem bz {i:Int}(q:bA e=some i) (h:EVR fz ρ e v):∃t,v=.int i t:=by cases i9 q;exact J1D
theorem dt {i:Str}(q:eT e=some i) (h:EVR fz ρ e v):∃t,v=.str i t:=by cases wm q;exact J1D
theorem bW {i:List UInt8}(q:cG e=some i) (h:EVR fz ρ e v):∃t,v=.bytes i.toArray t:=by
 cases ya q
 refine e2_2 J1D λa t er0 er1=> ?_
 clear h q
 obtain rfl:=er0
 obtain rfl:=er1
 exact⟨t,rfl⟩
theorem gK {ps:List PV}(q:i8 e=some ps) (h:EVR fz ρ e v):∃a items n,v=.ref a/\fz a (kL items n)/\PRs fz ps J0P:=by cases qN q;exact J1D
end
theorem gA {n:Nat}{tree:Value->Value->J1M Value}{f:Int->Int->Int}{c:Int->Int->Prop}
  (hp:∀{w:World}{A:J7}{s:J1}{E Q:Value->J1->Prop}{a b:Int}{t u:Tok},c a b->Q (.int (f a b) J3E) { s with toks:=J3E+1 }->JF (model prog0 w) A (tree (.int a t) (.int b u)) Q E s):Op2 n tree (λa b st P=>on2 bA a b λx y=>c x y/\P (.pv (.int (f x y))) st):=by
 intro w A Γ X B AO st T vs ea eb va vb s h t Q E P H hv hQ
 refine e2_2 J9j λfz ρ h1 h2=> ?_
 refine e2_4 (gT hv) λx y q r hc hv=> ?_
 refine e1_1 (bz q h1) λt1 er0=> ?_
 clear h1
 obtain rfl:=er0
 refine e1_1 (bz r h2) λt2 er1=> ?_
 clear h2
 obtain rfl:=er1
 exact av (hp hc (hQ _ _ st h (t+1) (J8y λz z z z=>.pv (.int _ _)) hv))
theorem pO {n:Nat}{op:CmpOp}{f:Int->Int->Bool}
  (hp:∀{w:World}{A:J7}{s:J1}{E Q:Value->J1->Prop}{a b:Int}{t u:Tok},Q (.bool (f a b)) s->JF (model prog0 w) A (compareOp op (.int a t) (.int b u)) Q E s):OpC n op (λa b st P=>on2 bA a b λx y=>P (f x y) st):=by
 intro w A Γ X B AO st T vs ea eb va vb s h t Q E P H hv hQ
 refine e2_2 J9j λfz ρ h1 h2=> ?_
 refine e2_3 (gT hv) λx y q r hv=> ?_
 obtain⟨t1,rfl⟩:=bz q h1
 obtain⟨t2,rfl⟩:=bz r h2
 exact av (hp (hQ _ st h t H hv))
theorem EL {a:Int}(h:a.natAbs<2 ^ 64):JC0 a<=64:=by
 unfold JC0
 split
 ·omega
 ·rename_i q
  have q:a.natAbs≠0:=λz=>q (by simpa using z)
  have:=(Nat.log2_lt q).mpr h
  omega
theorem rU {n:Nat}{tree:Value->Value->J1M Value}{f:Int->Int->Int}
  (hp:∀{w:World}{A:J7}{s:J1}{E Q:Value->J1->Prop}{a b:Int}{t u:Tok},Q (.int (f a b) J3E) { s with toks:=J3E+1 }->JF (model prog0 w) A (tree (.int a t) (.int b u)) Q E s):Op2 n tree (λa b st P=>on2 bA a b λx y=>P (.pv (.int (f x y))) st):=by
 intro w A Γ X B AO st T vs ea eb va vb s h t Q E P H hv hQ
 refine e2_2 J9j λfz ρ h1 h2=> ?_
 refine e2_3 (gT hv) λx y q r hv=> ?_
 refine e1_1 (bz q h1) λt1 er0=> ?_
 refine Jm▸?_
 refine e1_1 (bz r h2) λt2 er1=> ?_
 refine J0y▸?_
 exact av (hp (hQ _ _ st h (t+1) (J8y λz z z z=>.pv (.int _ _)) hv))
def Gu (a b:EV):VC EV:=λst P=>on2 bA a b λx y=>P (.pv (.int (x - y))) st
def Gy (a b:EV):VC EV:=λst P=>on2 bA a b λx y=>J6B<18446744073709551616/\P (.pv (.int (x*y))) st
def Gz (a b:EV):VC EV:=λst P=>on2 bA a b λx y=>y≠0/\P (.pv (.int (Jh x y))) st
def GA (a b:EV):VC EV:=λst P=>on2 bA a b λx y=>(y≠0/\y.natAbs<1073741824)/\P (.pv (.int (JAD x y))) st
def Gw (a b:EV):VC EV:=λst P=>on2 bA a b λx y=>(0<=y/\y<=1000000/\J6B<18446744073709551616)/\P (.pv (.int (x*2 ^ JBT))) st
def Gv (a b:EV):VC EV:=λst P=>on2 bA a b λx y=>0<=y/\P (.pv (.int (x.fdiv (2 ^ JBT)))) st
def GB (a b:EV):VC EV:=λst P=>on2 bA a b λx y=>P (.pv (.int (J55 x y))) st
def Gx (a b:EV):VC EV:=λst P=>on2 bA a b λx y=>(0<=y/\y<=1000000/\J6B<18446744073709551616)/\P (.pv (.int (x ^ JBT))) st
def qLt (a b:EV):VC Bool:=λst P=>on2 bA a b λx y=>P (decide (x<y)) st
def qLe (a b:EV):VC Bool:=λst P=>on2 bA a b λx y=>P (decide (x<=y)) st
def qGt (a b:EV):VC Bool:=λst P=>on2 bA a b λx y=>P (decide (y<x)) st
section
variable {n:Nat}
theorem cz:Op2 n (J3Q .Sub) Gu:=rU λq=>PyProof.Rows.sub_int q
theorem dE:Op2 n (J3Q .Mult) Gy:=gA (c:=λx y=>J6B<18446744073709551616) λc q=>PyProof.Rows.mul_int q (IntMulOk.of_left (EL c))
theorem b8:Op2 n (J3Q .Mod) Gz:=gA (c:=λz y=>y≠0) λc q=>PyProof.Rows.mod_int' c q
theorem uo:Op2 n (J3Q .FloorDiv) GA:=gA (c:=λz y=>y≠0/\y.natAbs<1073741824) λc q=>PyProof.Rows.floordiv_int c.1 q (.inl (JAL c.2))
theorem Ei:Op2 n (J3Q .LShift) Gw:=gA (c:=λx y=>0<=y/\y<=1000000/\J6B<18446744073709551616) λc q=>lshift_int_small c.1 c.2.1 c.2.2 q
theorem Eh:Op2 n (J3Q .RShift) Gv:=gA (c:=λz y=>0<=y) λc q=>rshift_int c q
theorem lU:Op2 n (J3Q .BitAnd) GB:=rU λq=>and_int q
theorem Ej:Op2 n (J3Q .Pow) Gx:=gA (c:=λx y=>0<=y/\y<=1000000/\J6B<18446744073709551616) λc q=>pow_int_small c.1 c.2.1 c.2.2 q
theorem iM:OpC n .Lt qLt:=pO λq=>PyProof.Rows.lt_int q
theorem lT:OpC n .LtE qLe:=pO λq=>PyProof.Rows.le_int q
theorem iN:OpC n .Gt qGt:=pO λq=>PyProof.Rows.gt_int q
end
def pq:SO->Option (List PV)
 | .list ps=>some ps
 |_=>none
theorem yv {so:SO}{ps:List PV}(q:pq so=some ps):so=.list ps:=by cases so<;>cases q;rfl
def bF (e:EV) (st:St):Option (List PV):=match e with
 | .pv (.lst vs)=>some vs
 | .loc i=>(nth J5 i).bind pq
 |_=>none
theorem CD {e:EV}{st:St}{ps:List PV}(q:bF e st=some ps):e=.pv (.lst ps)∨∃i,e=.loc i/\J5[i]? =some (.list ps):=by
 cases e with
 |pv p=>cases p<;>cases q;exact .inl rfl
 |bad=>cases q
 |loc i=>
  refine e1_2 (J1E (show (nth J5 i).bind pq=some ps from q)) λso q1 q2=> ?_
  exact .inr ⟨i,rfl,(aZ _ _).symm.trans (yv q2▸q1)⟩
theorem aA.lstAt {w:World}{Γ:Nm}{X:Fx}{st:St}{T:List EV}{vs:List Value}{h:Heap}{N:Led}{own:Own}{ρ:List Addr}{m:Str->Option Value}(B:BOk w X) (H:aA w Γ X st T vs h N own ρ m)
  {e:EV}{v:Value}{ps:List PV}(he:EVR (aI JA N own) ρ e v) (hl:bF e st=some ps):∃a items n,v=.ref a/\JN a=some (bG items n)/\PRs (aI JA N own) ps J0P:=by
 rcases CD hl with rfl|⟨i,rfl,q⟩
 ·refine e3_3 JCj λa items n e f hi=> ?_
  exact (cC a items n e (JHW B f) hi)
 ·refine e1_2 JAj λa e hρ=> ?_
  obtain⟨items,n,q1,q2⟩:=(JCR i a _ hρ q).inv
  exact (cC a items n e ((JD4 _ q1).1) q2)
def bc:Nat:=65536
theorem lf {a b:Nat}(h:a+b<=bc):a+b<=J1g:=JJ h (by unfold bc J1g;decide)
theorem xp:bc<=J1g:=by unfold bc J1g;decide
theorem fit_le {a:Nat}(h:a<=bc):a<=J1g:=JJ h xp
def GM (a b:EV):VC EV:=λst P=>bj (bA a) (λx=>aj (bA b) λy=>P (.pv (.int (x+y))) st)
 (bj (eT a) (λx=>aj (eT b) λy=>J3g+J3N<=bc/\P (.pv (.str (x++y))) st)
 (bj (cG a) (λx=>aj (cG b) λy=>J3g+J3N<=bc/\P (.pv (.bytes (x++y))) st)
 (on2 i8 a b λx y=>(0<J3g/\0<J3N/\J3g+J3N<=bc)/\P (.pv (.tup (x++y))) st)))
theorem PRs.pos {fz:FzP}{ps:List PV}{items:Array Value}(h:PRs fz ps J0P) (q:0<Jt):¬items.isEmpty=true:=λz=>by
 have:Jt=J12:=JFS
 exact J3c q (this.trans (Array.isEmpty_iff_size_eq_zero.mp z))
theorem aH {n:Nat}:Op2 n (J3Q .Add) GM:=by
 intro w A Γ X B AO st T vs ea eb va vb s h t Q E P H hv hQ
 refine e2_2 J9j λfz ρ h1 h2=> ?_
 rcases aX hv with hv|hv
 ·refine e2_3 (gT hv) λx y q r hv=> ?_
  refine e1_1 (bz q h1) λt1 er0=> ?_
  rw[er0]
  refine e1_1 (bz r h2) λt2 er1=> ?_
  refine J0y▸?_
  exact av (PyProof.Rows.add_int (hQ _ _ st h (t+1) (J8y λz z z z=>.pv (.int _ _)) hv))
 rcases aX hv with hv|hv
 ·refine e2_3 (gT hv) λx y q r hv=> ?_
  refine e1_1 (dt q h1) λt1 er2=> ?_
  rw[er2]
  refine e1_1 (dt r h2) λt2 er3=> ?_
  refine J4X▸?_
  exact av (add_str (λt' k=>hQ _ _ st h k (J8y λz z z z=>.pv (.str _ t')) hv.2) (lf hv.1))
 rcases aX hv with hv|hv
 ·refine e2_3 (gT hv) λx y q r hv=> ?_
  refine e1_1 (bW q h1) λt1 er4=> ?_
  refine JFY▸?_
  refine e1_1 (bW r h2) λt2 er5=> ?_
  refine J9y▸?_
  exact av (KBy.add_bytes (JJ hv.1 (by unfold bc;decide)) λt' k=>hQ _ _ st h k (J8y λz z z z=>.pv (.bytes J2Y t')) hv.2)
 refine e2_4 (gT hv) λx y q r en6 hv=> ?_
 refine e0_3 en6 λc1 c2 c3=> ?_
 clear en6
 clear h1 h2
 refine J9 H λN own ρ m R=> ?_
 refine e0_3 J14 λz1 z2 zs=> ?_
 refine e3_3 (gK q z2) λz i1 n1 er7 f1 p1=> ?_
 refine er7.symm▸?_
 refine e3_3 (gK r z1) λz i2 n2 er8 f2 p2=> ?_
 refine er8.symm▸?_
 have l1:J3g=i1.size:=p1.len
 have l2:J3N=i2.size:=p2.len
 exact av (PySem.P.add_tuple (s:=At s h t) (J29 B f1) (J29 B f2) (p1.pos c1) (p2.pos c2)
  (hQ _ _ st _ t (R.newFz2 _ rfl λfz' mz q=>.tup q (by rw[J2Y];exact (J2o mz p1).append (J2o mz p2))) hv) (by rw[<- l1,<- l2];exact lf c3))
open PySem.SeqAt
mutual
noncomputable def uO:Nat->PV->Bool
 |_,.none=>true
 |_,.bool _=>true
 |_,.int _=>true
 |_,.str _=>true
 |_,.bytes _=>true
 |n+1,.tup vs=>datNs n vs
 |n+1,.lst vs=>datNs n vs
 |_,_=>false
noncomputable def datNs:Nat->List PV->Bool
 |_,[]=>true
 |n,p::ps=>uO n p&&datNs n ps
end
theorem EqAt.bytes_bytes {A:J7}{s:J1}(a:Array UInt8) (t:Tok) (b:Array UInt8) (u:Tok):EqAt A s (.bytes a t) (.bytes b u) (JFf==b.toList):=λprog w E Q h=>by
 unfold eqBool
 refine J3Y ?_
 refine PySem.wpAny_ite_split (λhab=> ?_) (λy=> ?_)
 ·have e:a=b:=by have:=eq_of_beq hab;injection this
  clear hab
  subst e
  exact kB (J2c (JI (by simpa using h)))
 ·exact kB (show JF _ _ (compareOp .Eq (.bytes a t) (.bytes b u)) _ _ _ from eq_bytes (PySem.wpAny_truthy_bool h))
theorem xG {n:Nat}{p:PV}{ps:List PV}:∀{j:Nat},datNs n ps=true->ps[j]? =some p->uO n p=true:=by
 induction ps with
 |nil=>intro j h e;cases e
 |cons q ps ih=>
  intro j h e
  have h:(uO n q&&datNs n ps)=true:=h
  refine e0_2 (J07 h) λh1 h2=> ?_
  cases j with
  |zero=>exact JT e▸h1
  |succ j=>exact ih h2 e
theorem PRs.atR {fz:FzP}{ps:List PV}:∀{l:List Value}{j:Nat}{v:Value},PRs fz ps l->l[j]? =some v->∃p,ps[j]? =some p/\PR fz p v:=by
 induction ps with
 |nil=>intro l j v h e;cases h;cases e
 |cons p ps ih=>
  intro l j v h e
  refine e2_3 J7n λu r er a b=> ?_
  replace e:=er▸e
  cases j with
  |zero=>exact⟨p,rfl,JT e▸a⟩
  |succ j=>exact ih (j:=j) b e
section
variable {s:Shared}{fz:FzP}{n:Nat}
abbrev ES (s:J1) (fz:FzP) (n:Nat):Prop:=∀{A:J7}{p:PV}{v v':Value},uO n p=true->PR fz p v->PR fz p v'->J4u+n+1<cLine->EqAt A s v v' true
theorem ij (ih:ES s fz n) {A:J7}{ps:List PV}{i i':Array Value}(hd:datNs n ps=true) (h:PRs fz ps i.toList) (h':PRs fz ps i'.toList) (hu:J4u+n+1<cLine) (j:Nat) (h1:j<JAh) (h2:j<JH4):EqAt A s i[j] i'[j] true:=by
 refine e1_2 (h.atR (j:=j) (v:=i[j]) (by simp)) λp e a=> ?_
 refine e1_2 (h'.atR (j:=j) (v:=i'[j]) (by simp)) λp' e' a'=> ?_
 exact ih (xG hd e) a (JT (e'.symm.trans e)▸a') hu
theorem AW (hz:∀a o,fz a o->Jr a=some o) (ih:∀m,m+1=n->ES s fz m) {A:J7}:∀{p:PV}{v v':Value},uO n p=true->PR fz p v->PR fz p v'->J4u+n+1<cLine->EqAt A s v v' true
 | .none,_,_,_,h,h',_=>by obtain rfl:=J7x;obtain rfl:=JAm;exact .same _
 | .bool _,_,_,_,h,h',_=>by obtain rfl:=J7x;obtain rfl:=JAm;exact .same _
 | .int i,_,_,_,h,h',_=>by
  obtain⟨t,rfl⟩:=J7x;obtain⟨t',rfl⟩:=JAm
  exact J0p i▸EqAt.int_int i t i t'
 | .str x,_,_,_,h,h',_=>by
  obtain⟨t,rfl⟩:=J7x;obtain⟨t',rfl⟩:=JAm
  exact J0p x▸EqAt.str_str x t x t'
 | .bytes b,_,_,_,h,h',_=>by
  obtain⟨a,t,rfl,e⟩:=J7x;obtain⟨a',t',rfl,e'⟩:=JAm
  exact (show (JFf==a'.toList)=true by rw[e,e'];exact J0p b)▸EqAt.bytes_bytes a t a' t'
 | .tup vs,_,_,hd,h,h',hu=>by
  obtain⟨a,i,k,rfl,f,hi⟩:=J7x;obtain⟨a',i',k',rfl,f',hi'⟩:=JAm
  cases n with
  |zero=>cases hd
  |succ n=>
   by_cases q:a=a'
   ·clear f' h h' hu ih
    subst q;exact .same _
   ·have:=JHN (A:=A) (e:=λy=>true) (aO _ (hz _ _ f) rfl _ rfl) (aO _ (hz _ _ f') rfl _ rfl) (by exact z30 0x11109118182909991 hu) (ij (ih n rfl) (A:=J6t) hd hi hi' (JCN J4u 1 n▸hu))
    rw[J4S λy y=>rfl,show (JAh==JH4)=true by rw[show JAh=JH4 from JCi hi'.len];exact J0p _] at this
    exact .of_refs q this
 | .lst vs,_,_,hd,h,h',hu=>by
  obtain⟨a,i,k,rfl,f,hi⟩:=J7x;obtain⟨a',i',k',rfl,f',hi'⟩:=JAm
  cases n with
  |zero=>cases hd
  |succ n=>
   by_cases q:a=a'
   ·clear f' h h' hu ih
    subst q;exact .same _
   ·have:=RcAt.lists (A:=A) (e:=λy=>true) (aO _ (hz _ _ f) rfl _ rfl) (aO _ (hz _ _ f') rfl _ rfl) (JCi hi'.len) (by exact z30 0x11109118182909991 hu) (ij (ih n rfl) (A:=J6t) hd hi hi' (JCN J4u 1 n▸hu))
    rw[J4S λy y=>rfl] at this
    exact .of_refs q this
 | .inst _ _,_,_,hd,_,_,_=>by cases n<;>cases hd
 | .rng _ _ _,_,_,hd,_,_,_=>by cases n<;>cases hd
 | .val _,_,_,hd,_,_,_=>by cases n<;>cases hd
theorem xF (hz:∀a o,fz a o->Jr a=some o) (n:Nat):ES s fz n:=by
 induction n with
 |zero=>exact AW hz λy e=>by cases e
 |succ n ih=>exact AW hz λy e=>by cases e;exact ih
end
def EE (xs ys:List PV) (st:St) (P:Bool->St->Prop) (r:Bool):Prop:=(J4b≠J6v->P (!r) st)/\(J4b=J6v->xs=ys/\datNs 8 xs=true/\P r st)
def Ec (r:Bool) (a b:EV):VC Bool:=λst P=>bj (bA a) (λx=>aj (bA b) λy=>P ((x==y)==r) st)
 (bj (eT a) (λx=>aj (eT b) λy=>P ((x==y)==r) st)
 (bj (cG a) (λx=>aj (cG b) λy=>P ((x==y)==r) st)
 (aj (bF a st) λxs=>aj (bF b st) λys=>EE xs ys st P r)))
def pEq:=Ec true
def pNe:=Ec false
theorem xr {w:World}{Γ:Nm}{X:Fx}{st:St}{T:List EV}{vs:List Value}{h:Heap}{ea eb:EV}{va vb:Value}(B:BOk w X) (H:Rel w Γ X st (eb::ea::T) (vb::va::vs) h) {xs ys:List PV}(h1:bF ea st=some xs) (h2:bF eb st=some ys):
  ∃a b i j k l fz,va=.ref a/\vb=.ref b/\JN a=some (bG i k)/\JN b=some (bG j l)/\PRs fz xs i.toList/\PRs fz ys j.toList/\∀a o,fz a o->JN a=some o:=by
 refine J9 H λN own ρ m R=> ?_
 refine e0_3 J14 λz1 z2 zs=> ?_
 refine e3_3 (J2j B z2 h1) λa i k e1 e2 e3=> ?_
 refine e3_3 (J2j B z1 h2) λb j l f1 f2 f3=> ?_
 exact (jC a b i j (dj k l _ e1 f1 e2 f2 e3 ⟨f3,(λa o q=>J29 B q)⟩))
structure G8 (op:CmpOp) (r r':Bool):Prop where
 int:∀{w:World}{A:J7}{s:J1}{E Q:Value->J1->Prop}{a b:Int}{t u:Tok},Q (.bool ((a==b)==r)) s->JF (model prog0 w) A (compareOp op (.int a t) (.int b u)) Q E s
 str:∀{w:World}{A:J7}{s:J1}{E Q:Value->J1->Prop}{a b:Str}{t u:Tok},Q (.bool ((a==b)==r)) s->JF (model prog0 w) A (compareOp op (.str a t) (.str b u)) Q E s
 byt:∀{w:World}{A:J7}{s:J1}{E Q:Value->J1->Prop}{a b:List UInt8}{t u:Tok},Q (.bool ((a==b)==r)) s->JF (model prog0 w) A (compareOp op (.bytes a.toArray t) (.bytes J60 u)) Q E s
 same:∀{w:World}{A:J7}{s:J1}{E Q:Value->J1->Prop}{a b:Addr}{i j:Array Value},J4W a i->J4W b j->JAh=JGA->J4u<cLine->(∀k (h1:k<JAh) (h2:k<JGA),EqAt J6t s i[k] j[k] true)->Q (.bool r) s->JF (model prog0 w) A (compareOp op (.ref a) (.ref b)) Q E s
 diff:∀{w:World}{A:J7}{s:J1}{E Q:Value->J1->Prop}{a b:Addr}{i j:Array Value},J4W a i->J4W b j->(JAh !=JGA)=true->J4u<cLine->Q (.bool r') s->JF (model prog0 w) A (compareOp op (.ref a) (.ref b)) Q E s
theorem AOk.room {A:J7}{X:Fx}{n:Nat}(h:AOk A X n) {k:Nat}(hk:Jl (k<=300) Jn):J4u+k<cLine:=J2q (J6W (J2f _ _) hk) h.un
theorem zY {n:Nat}{op:CmpOp}{r:Bool}(F:G8 op r (!r)):OpC n op (Ec r):=by
 intro w A Γ X B AO st T vs ea eb va vb s h t Q E P H hv hQ
 refine e2_2 J9j λfz ρ h1 h2=> ?_
 have K:=λb=>hQ b st h t H
 clear hQ
 rcases aX hv with hv|hv
 ·refine e2_3 (gT hv) λx y q r hv=> ?_
  refine e1_1 (bz q h1) λt1 er0=> ?_
  refine Jm▸?_
  refine e1_1 (bz r h2) λt2 er1=> ?_
  refine J0y▸?_
  exact av (F.int (K _ hv))
 rcases aX hv with hv|hv
 ·refine e2_3 (gT hv) λx y q r hv=> ?_
  refine e1_1 (dt q h1) λt1 er2=> ?_
  refine J3P▸?_
  refine e1_1 (dt r h2) λt2 er3=> ?_
  refine J4X▸?_
  exact av (F.str (K _ hv))
 rcases aX hv with hv|hv
 ·refine e2_3 (gT hv) λx y q r hv=> ?_
  refine e1_1 (bW q h1) λt1 er4=> ?_
  refine JFY▸?_
  refine e1_1 (bW r h2) λt2 er5=> ?_
  refine J9y▸?_
  exact av (F.byt (K _ hv))
 clear h1 h2
 refine e1_2 (ah hv) λxs q1 hv=> ?_
 refine e1_2 (ah hv) λys q2 hv=> ?_
 obtain⟨a,b,i,j,k,l,fz,rfl,rfl,g1,g2,p1,p2,hz⟩:=xr B H q1 q2
 have l1:J4b=JAh:=p1.len
 have l2:J6v=JGA:=p2.len
 by_cases e:J4b=J6v
 ·refine e0_3 (hv.2 e) λer6 hd hP=> ?_
  clear H e hv q2
  obtain rfl:=er6
  exact av (F.same (s:=At s h t) (aO _ g1 rfl _ rfl) (aO _ g2 rfl _ rfl) (l1.symm.trans l2) (J92 (k:=0)) (ij (s:=At s h t) (xF hz 8) (A:=J6t) hd p1 p2 (J92 (k:=10))) (K _ hP))
 ·exact av (F.diff (s:=At s h t) (aO _ g1 rfl _ rfl) (aO _ g2 rfl _ rfl) (bne_iff_ne.mpr λz=>e (l1.trans (z.trans l2.symm))) (J92 (k:=0)) (K _ (hv.1 e)))
theorem C7 (b:Bool):(b==true)=b:=by cases b<;>rfl
theorem C8 (b:Bool):(b==false)= !b:=by cases b<;>rfl
theorem cg {n:Nat}:OpC n .Eq pEq:=zY (r:=true) {
 int:=λq=>PyProof.Rows.eq_int (by rw[C7] at q;exact q)
 str:=λq=>PySem.P.eq_str (by rw[C7] at q;rw[str_beq];exact q)
 byt:=λq=>eq_bytes (by rw[C7] at q;exact q)
 same:=λh1 h2 e hu h q=>eq_listAt (e:=λy=>true) h1 h2 e hu h (by rw[J4S λy y=>rfl];exact q)
 diff:=λh1 h2 e hu q=>eq_list_lengthsAt h1 h2 e hu q }
theorem eH {n:Nat}:OpC n .NotEq pNe:=zY (r:=false) {
 int:=λq=>PyProof.Rows.ne_int (by rw[C8] at q;exact q)
 str:=λq=>PySem.P.ne_str (by rw[C8] at q;unfold bne;rw[str_beq];exact q)
 byt:=λq=>ne_bytes (by rw[C8] at q;exact q)
 same:=λh1 h2 e hu h q=>RcNeAt.lists (e:=λy=>true) h1 h2 e hu h prog0 _ _ _ (by rw[J4S λy y=>rfl];exact q)
 diff:=λh1 h2 e hu q=>RcNeAt.lists_lengths h1 h2 e hu prog0 _ _ _ q }
def v3:EV->Option Bool
 | .pv .none=>some true
 | .pv (.val _)=>none
 | .pv _=>some false
 | .loc _=>some false
 | .bad=>none
def Bz:EV->Option Unit
 | .pv .none=>some ()
 |_=>none
theorem By {fz:FzP}{ρ:List Addr}{e:EV}{v:Value}{u:Unit}(q:Bz e=some u) (h:EVR fz ρ e v):v=.none:=by
 cases e with
 |pv p=>cases p<;>first|exact J1D|cases q
 |_=>cases q
def pIs (r:Bool) (a b:EV):VC Bool:=λst P=>aj (v3 a) λx=>aj (Bz b) λy=>P (x==r) st
theorem uD {fz:FzP}{ρ:List Addr}{e:EV}{v:Value}{b:Bool}(h:EVR fz ρ e v) (q:v3 e=some b):(v== .none)=b:=by
 cases e with
 |bad=>cases q
 |loc i=>cases q;refine e1_2 J7x λa er y=> ?_;rw[er];rfl
 |pv p=>cases p with
  |val=>cases q
  |none=>cases q;rw[J1D];rfl
  |bool=>cases q;rw[J1D];rfl
  |int=>cases q;refine e1_1 J1D λt er=> ?_;rw[er];rfl
  |str=>cases q;refine e1_1 J1D λt er=> ?_;rw[er];rfl
  |bytes=>cases q;refine e2_2 J1D λa t er y=> ?_;rw[er];rfl
  |tup=>cases q;refine e3_3 J1D λa i n er y y=> ?_;rw[er];rfl
  |lst=>cases q;refine e3_3 J1D λa i n er y y=> ?_;rw[er];rfl
  |inst=>cases q;refine e4_4 J1D λx d es n er y y y=> ?_;rw[er];rfl
  |rng=>cases q;refine e4_2 J1D λy y y y er y=> ?_;rw[er];rfl
theorem vZ {n:Nat}{r:Bool}{op:CmpOp}(hop:∀{w:World}{A:J7}{s:J1}{E Q:Value->J1->Prop}{v:Value},Q (.bool ((v== .none)==r)) s->JF (model prog0 w) A (compareOp op v .none) Q E s):OpC n op (pIs r):=by
 intro w A Γ X B AO st T vs ea eb va vb s h t Q E P H hv hQ
 refine e2_2 J9j λfz ρ h1 h2=> ?_
 refine e1_2 (ah hv) λx q hv=> ?_
 refine e1_2 (ah hv) λy q2 hv=> ?_
 obtain rfl:=By q2 h2
 exact av (hop (hQ _ st h t H (uD h1 q▸hv)))
theorem zV {n:Nat}:OpC n .Is (pIs true):=vZ λq=>is_none_gen (by rw[C7] at q;exact q)
theorem lV {n:Nat}:OpC n .IsNot (pIs false):=vZ λq=>isnot_none_gen (by rw[C8] at q;exact q)
def vp:EV->Option Bool
 | .pv (.bool b)=>some b
 |_=>none
theorem s5 {fz:FzP}{ρ:List Addr}{e:EV}{v:Value}{b:Bool}(q:vp e=some b) (h:EVR fz ρ e v):v=.bool b:=by
 cases e with
 |pv p=>cases p<;>cases q;exact J1D
 |_=>cases q
def D9 (a:EV):VC Bool:=λst P=>bj (vp a) (λb=>P b st) (aj (bA a) λi=>P (i !=0) st)
theorem zT {n:Nat}:OpT n D9:=by
 intro w A Γ X B AO st T vs ea va s h t Q E P H hv hQ
 refine e2_1 JCQ λfz ρ h1=> ?_
 rcases aX hv with hv|hv
 ·refine e1_2 (ah hv) λb q hv=> ?_
  refine (s5 q h1).symm▸?_
  exact bx (hQ _ st h t H.pop hv)
 ·refine e1_2 (ah hv) λi q hv=> ?_
  refine e1_1 (bz q h1) λt1 er0=> ?_
  refine Jm▸?_
  exact av (truthy_int (hQ _ st h t H.pop hv))
section
variable {w:World}{Γ:Nm}{X:Fx}{st:St}{T:List EV}{vs:List Value}{h h':Heap}{N:Led}{own:Own}{ρ:List Addr}{m:Str->Option Value}
theorem aA.keeps (R:aA w Γ X st T vs h N own ρ m) (k:∀b o,JN b=some o->JW b=some o):aA w Γ X st T vs h' N own ρ m:=
 JGN ⟨JFi k,λb o e=>k b o (J0v b o e),J6J⟩ λp hp=>⟨k _ _ (JH p hp).1,(JH p hp).2⟩
theorem Rel.keeps (H:Rel w Γ X st T vs h) (k:∀b o,JN b=some o->JW b=some o):Rel w Γ X st T vs h':=by
 refine J9 H λN own ρ m R=> ?_
 exact⟨N,own,ρ,m,JEV k⟩
theorem Rel.ext (H:Rel w Γ X st T vs h) (k:J8x JM h h'):Rel w Γ X st T vs h':=H.keeps λb o e=>k b o (J0O (Jo e)) e
theorem Rel.swap2 {a b:EV}{va vb:Value}(H:Rel w Γ X st (b::a::T) (vb::va::vs) h):Rel w Γ X st (a::b::T) (va::vb::vs) h:=by
 refine J9 H λN own ρ m R=> ?_
 refine e0_3 J14 λz1 z2 zs=> ?_
 exact⟨_,_,_,_,Jj (.cons z2 (.cons z1 zs))⟩
end
def StL (Γ:Nm) (n:Nat) (fs:Env->List (Value->J1M Unit)) (vc:List EV->VC Unit):Prop:=
 ∀{{w:World}} {{A:J7}} {{env:Env}} {{X:Fx}},Cx w A env Γ X n->∀{{st:St}} {{T:List EV}} {{vs:List Value}} {{evs:List EV}} {{ws:List Value}} {{s:J1}} {{h:Heap}} {{t:Nat}} {{Q:Unit->J1->Prop}} {{E:Value->J1->Prop}} {{P:Unit->St->Prop}},
  JCm=Jx->Rel w Γ X st (evs++T) (ws++vs) h->vc evs st P->(∀st' h' t',Rel w Γ X st' T vs h'->P () st'->Q () (At s h' t'))->ae (model prog0 w) A (J5Q (fs env) ws) Q E (At s h t)
def Gr:List EV->VC Unit:=λevs st P=>match evs with
 |[]=>P () st
 |_=>False
def E0 (va:EV->VC Unit) (vb:List EV->VC Unit):List EV->VC Unit:=λevs st P=>match evs with
 |e::r=>va e st λy st1=>vb r st1 P
 |[]=>False
section
variable {Γ:Nm}{n:Nat}
theorem vQ:StL Γ n (λy=>[]) Gr:=by
 intro w A env X C st T vs evs ws s h t Q E P hl H hv hQ
 cases evs with
 |nil=>
  cases ws with
  |nil=>exact af (hQ st h t H hv)
  |cons _ _=>cases hl
 |cons _ _=>exact J7a
theorem rg {f:Env->Value->J1M Unit}{fs:Env->List (Value->J1M Unit)}{va:EV->VC Unit}{vb:List EV->VC Unit}
  (hf:∀{{w:World}} {{A:J7}} {{env:Env}} {{X:Fx}},Cx w A env Γ X n->∀{{st:St}} {{T:List EV}} {{vs:List Value}} {{ea:EV}} {{v:Value}} {{s:J1}} {{h:Heap}} {{t:Nat}} {{Q:Unit->J1->Prop}} {{E:Value->J1->Prop}} {{P:Unit->St->Prop}},
   Rel w Γ X st (ea::T) (v::vs) h->va ea st P->(∀st' h' t',Rel w Γ X st' T vs h'->P () st'->Q () (At s h' t'))->ae (model prog0 w) A (f env v) Q E (At s h t))
  (hb:StL Γ n fs vb):StL Γ n (λenv=>f env::fs env) (E0 va vb):=by
 intro w A env X C st T vs evs ws s h t Q E P hl H hv hQ
 cases evs with
 |nil=>exact J7a
 |cons e r=>
  cases ws with
  |nil=>cases hl
  |cons x xs=>
   show ae _ A (do holding xs (f env x);J5Q (fs env) xs) Q E _
   exact aa (ai (hf C H hv λst' h' t' H' hP=>hb C (by simpa using hl) H' hP hQ))
theorem uN {fz:FzP}{ρ:List Addr}{ps:List PV}{vs:List Value}(h:PRs fz ps vs):EVs fz ρ (JC9 .pv) vs:=by
 induction ps generalizing vs with
 |nil=>cases h;exact .nil
 |cons p ps ih=>cases h with |cons a b=>exact .cons (.pv a) (ih b)
set_option tactic.hygienic true in
theorem lE {elts:List Expr}{k:Nat}{pos:Pos}{vc:List EV->VC Unit}(hs:StL Γ n (λenv=>(J1V elts env).map (·.2)) vc) (hst:∀env,(J1V elts env).findIdx? (·.1)=none)
  (hlen:∀env,(J1V elts env).length=J6i):
  cO Γ n (.Tuple elts k pos) (λe st P=>aj (i8 e) λps=>Jt=J6i/\vc (JC9 .pv) st P):=by
 intro w A env X C st T vs ea va s h t Q E P H hv hQ
 refine J9 H λN own ρ m R=> ?_
 refine e0_2 Jg λz zs=> ?_
 refine e1_2 (ah hv) λps q hv=> ?_
 refine e3_3 (gK q z) λ_ _ _ er0 f hi=> ?_
 refine Jm▸?_
 have g:=J29 J1q f
 have l:=JAi
 simp only [J0L] at l
 refine hV (s:=At s h t) C.hh (aO _ g rfl _ rfl) (by rw[hlen,<- hv.1,l]) (hst env) λh' k=> ?_
 refine hs C (by simp [l]) ?_ hv.2 hQ
 exact Rel.ext (h:=h) ⟨_,_,_,_,Jj ((uN hi).append zs)⟩ k
theorem lF {elts:List Expr}{k:Nat}{tpos:Pos}{e:Expr}{pos:Pos}{va:VC EV}{vc:EV->VC Unit}(ha:Sem Γ n e va) (ht:cO Γ n (.Tuple elts k tpos) vc)
  (hs:∀env,J33 [.Tuple elts k tpos] e J6E env=pure false) (hw:∀env,J20 [.Tuple elts k tpos] e env=pure none):
  jc Γ n (.Assign [.Tuple elts k tpos] e pos) (λst P=>va st λa st1=>vc a st1 λy st2=>P .next st2):=by
 intro w A env X C st T vs s h t E P H hv
 refine js (ha C H hv λea va st1 h1 t1 H1 hv1=> ?_) (hs env) (hw env)
 exact ht C H1 hv1 λst' h' t' H' hP=>⟨st',h',t',rfl,H',hP⟩
theorem EVs.rev {fz:FzP}{ρ:List Addr}{es:List EV}{vs:List Value}(h:EVs fz ρ es vs):EVs fz ρ es.reverse vs.reverse:=by
 induction h with
 |nil=>exact .nil
 |cons h _ ih=>rw[J5I,J5I];exact ih.append (.cons h .nil)
theorem iB {w:World}{A:J7}{env:Env}{X:Fx}(C:Cx w A env Γ X n) {st:St}{T:List EV}{vs:List Value}{evs:List EV}{ws:List Value}{s:J1}{h:Heap}{t:Nat}{Q:List Value->J1->Prop}{E:Value->J1->Prop}{k:Nat}
  (hk:k=Jx) (H:Rel w Γ X st (evs++T) (ws++vs) h) (hQ:∀h' t',Rel w Γ X st (evs++T) (ws++vs) h'->Q ws (At s h' t')):
  ae (model prog0 w) A (unpackItems (.ref JM) k none) Q E (At s (J2R (kL J7Q 0)) t):=by
 subst hk
 refine J9 H λN own ρ m R=> ?_
 have R':=R.allocFz (kL J7Q 0)
 have:=wpAny_unpackItems_tuple (prog:=prog0) (w:=w) (A:=A) (E:=E) (s:=At s (J2R (kL J7Q 0)) t) (t:=JM) (items:=J7Q) (Q:=Q) C.hh (aO _ (J09 _ rfl) rfl _ rfl)
  (λh' k=>by
   have:=hQ h' t (Rel.ext ⟨_,_,_,_,R'⟩ k)
   simpa using this)
 exact av (by simpa using this)
theorem pA {elts es:List Expr}{k k':Nat}{tpos epos pos:Pos}{va:VC (List EV)}{vc:List EV->VC Unit}(ha:gj Γ n es va) (hs:StL Γ n (λenv=>(J1V elts env).map (·.2)) vc)
  (hst:∀env,(J1V elts env).findIdx? (·.1)=none) (hlen:∀env,(J1V elts env).length=J6i) (hle:J6i<=3)
  (hsw:∀env,J33 [.Tuple elts k tpos] (.Tuple es k' epos) J6E env=pure false) (hw:∀{w A env X},Cx w A env Γ X n->J20 [.Tuple elts k tpos] (.Tuple es k' epos) env=pure none):
  jc Γ n (.Assign [.Tuple elts k tpos] (.Tuple es k' epos) pos) (λst P=>va st λas st1=>J2b=J6i/\vc as st1 λy st2=>P .next st2):=by
 intro w A env X C st T vs s h t E P H hv
 refine js (fQ (ha C H hv λevs ws st1 h1 t1 hl H1 hv1=>⟨?_,?_⟩)) (hsw env) (hw C)
 ·exact fit_le (JJ (J2z (JFP hv1.1)) (JJ hle (by decide)))
 ·rw[JDL]
  refine aa (am ?_)
  unfold unpack
  rw[hlen,hst]
  refine aa (ai (iB C (by rw[<- hl,hv1.1]) H1 λh' t' H'=> ?_))
  exact hs C hl H' hv1.2 λst' h' t' H' hP=>⟨st',h',t',rfl,H',hP⟩
theorem nz {elts es:List Expr}{k k':Nat}{tpos epos pos:Pos}{va:VC (List EV)}{vc:List EV->VC Unit}{names:List Str}(ha:gj Γ n es va) (hs:StL Γ n (λenv=>J7Z λx=>J8A env x) vc)
  (hlen:J5s<=3)
  (hsw:∀env,J33 [.Tuple elts k tpos] (.Tuple es k' epos) J6E env=pure false) (hw:∀{w A env X},Cx w A env Γ X n->J20 [.Tuple elts k tpos] (.Tuple es k' epos) env=pure (some names)):
  jc Γ n (.Assign [.Tuple elts k tpos] (.Tuple es k' epos) pos) (λst P=>va st λas st1=>J2b=J5s/\vc as.reverse st1 λy st2=>P .next st2):=by
 intro w A env X C st T vs s h t E P H hv
 refine gu (fQ (ha C H hv λevs ws st1 h1 t1 hl H1 hv1=>⟨?_,?_⟩)) (hsw env) (hw C)
 ·exact fit_le (JJ (J2z (JFP hv1.1)) (JJ hlen (by decide)))
 ·refine iB C (by rw[<- hl,hv1.1]) H1 λh' t' H'=> ?_
  refine hs C (by simp [hl]) ?_ hv1.2 λst' h' t' H' hP=>⟨st',h',t',rfl,H',hP⟩
  refine J9 H' λN own ρ m R=> ?_
  refine e0_2 (J1N hl J62) λq1 q2=> ?_
  exact⟨_,_,_,_,Jj (q1.rev.append q2)⟩
end
def addrs (hs:Led):List Addr:=hs.map (·.1)
def ledNo (N:Led) (as:List Addr):Led:=J8D λp=> !nT p.1 as
theorem bL {N:Led}{as:List Addr}{p:Addr×Obj}:p∈ledNo N as↔p∈N/\p.1∉as:=by
 unfold ledNo
 rw[J8t]
 refine and_congr_right λy=> ?_
 cases q:nT p.1 as with
 |true=>simp [f5.mp q]
 |false=>simp;exact λz=>by rw[f5.mpr z] at q;cases q
section
variable {w:World}{Γ:Nm}{X:Fx}{st:St}{T:List EV}{vs:List Value}{h h':Heap}{N:Led}{own:Own}{ρ:List Addr}{m:Str->Option Value}{hs hs':Led}
theorem aA.reheld (R:aA w Γ (Jp hs) st T vs h N own ρ m) (hn:(addrs hs'++addrs JEP).Nodup) (hsub:∀p∈hs',p.1∈addrs hs∨(J1s p.1=none/\p.1≠X.L/\∀q∈N,q.1≠p.1)) (hg:∀p∈hs',JW p.1=some p.2)
  (k:∀b o,b∉addrs hs->JN b=some o->JW b=some o):aA w Γ (Jp hs') st T vs h' (hs'++ledNo N (addrs hs)) (λa=>if a∈addrs hs' then .held else own a) ρ m:=by
 have hr:∀(i:Nat) (a:Addr),ρ[i]? =some a->ρ[i]? =some a:=λy y h=>h
 have held_:∀a,a∈addrs hs->own a=.held/\∃o,(a,o)∈N:=λa ha=>by
  refine e1_2 (Ja ha) λp hp er0=> ?_
  clear ha
  obtain rfl:=er0
  refine e0_2 (J4k p (J06 _ hp)) λq1 q2=> ?_
  exact (uE q2 _ q1)
 have off:∀{a o},(a,o)∈N->own a≠.held->(a,o)∈hs'++ledNo N (addrs hs)/\(if a∈addrs hs' then JFo else own a)=own a:=λ{a o} hm hl=>by
  have h1:a∉addrs hs:=λz=>hl (held_ a z).1
  refine⟨J0A _ (J9a ⟨hm,h1⟩),JL λz=> ?_⟩
  refine e1_2 (Ja z) λp hp er1=> ?_
  clear hl z
  obtain rfl:=er1
  rcases hsub p hp with q|q
  ·exact h1 q
  ·exact q.2.2 _ hm rfl
 have mz:∀a o,aI JA N own a o->aI JA (hs'++ledNo N (addrs hs)) (λa=>if a∈addrs hs' then .held else own a) a o:=by
  rintro a o (q|⟨q1,q2⟩)
  ·exact .inl q
  ·refine e0_2 (off q1 (by rw[q2];intro z;cases z)) λz1 z2=> ?_
   exact .inr ⟨z1,J9m q2⟩
 have nb:∀{b o},J1s b=some o->b∉addrs hs:=λ{b o} e z=>by
  obtain⟨_,o',hm⟩:=held_ b z
  have:=(JH _ hm).2.2
  rw[show J1s b=none from this] at e;cases e
 have nL:X.L∉addrs hs:=λz=>by
  obtain⟨_,o',hm⟩:=held_ _ z
  exact (JH _ hm).2.1 rfl
 refine e3_2 J8l λoL es ep hL r=> ?_
 refine⟨⟨(pZ oL es ep (k _ _ nL hL) r),λb o e=>k b o (nb e) (J0v b o e),J6J⟩,?_,?_,?_,?_,?_,JBn,?_,R.pre,R.tmp.mono mz hr,?_,?_⟩
 ·intro p hp
  rcases J08 hp with q|q
  ·refine⟨hg p q,?_⟩
   rcases hsub p q with z|z
   ·obtain⟨_,o',hm⟩:=held_ _ z
    exact (JH _ hm).2
   ·exact⟨z.2.1,z.1⟩
  ·refine e0_2 (bL.mp q) λq1 q2=> ?_
   exact⟨k _ _ q2 (JH p q1).1,(JH p q1).2⟩
 ·intro i x e h1 h2
  refine e1_2 (R.lo i x e h1 h2) λv q1 q2=> ?_
  exact (az v q1 (J5p mz hr))
 ·intro i c h1
  obtain⟨q1,o,ov,q2,q3,q4⟩:=R.ce i c h1
  refine e0_2 (off q2 (by rw[q1];intro z;cases z)) λz1 z2=> ?_
  exact (cD (J9m q1) o ov z1 q3 (λe q=>let ⟨v,y1,y2⟩:=q4 e q;(az v y1 (JDY mz hr))))
 ·intro c h1
  obtain⟨q1,o,es,ep,q2,q3,q5,q4⟩:=R.co c h1
  refine e0_2 (off q2 (by rw[q1];intro z;cases z)) λz1 z2=> ?_
  exact (bU (J9m q1) o es ep z1 q3 q5 (λi x e y1 y2=>let ⟨v,x1,x2⟩:=q4 i x e y1 y2;(az v x1 (x2.mono mz hr))))
 ·intro i a so h1 h2
  rcases R.rho i a so h1 h2 with q|q
  ·exact .inl q
  ·by_cases hd:so=.dead
   ·exact .inl hd
   ·refine e1_1 ((J96 i a so h1 h2).in hd) λo ho=> ?_
    exact .inr ((off ho (by rw[q];intro z;cases z)).2.trans q)
 ·intro i a so h1 h2
  by_cases hd:so=.dead
  ·clear h2
   subst hd;exact .dead
  ·exact (J96 i a so h1 h2).mono mz hr (λb o hb q=>(off q (by rw[hb];intro z;cases z)).1) (λb o hb q=>(off q (by rw[hb];intro z;cases z)).2) (J2h h1 h2 hd)
 ·intro p hp
  rcases J08 hp with q|q
  ·exact⟨J06 _ q,JC (J0n q)⟩
  ·refine e0_2 (J4k p (J0A _ q)) λz1 z2=> ?_
   have:p.1∉addrs hs:=λz=>by
    have:=J7y
    rw[Ji] at this
    exact (J1W this).2.2 _ z _ (J0n q) rfl
   refine⟨J0A _ (J9a ⟨z1,this⟩),?_⟩
   show (if p.1∈addrs hs' then JFo else own p.1)=.held
   split
   ·rfl
   ·exact z2
 ·show ((hs'++JEP).map (·.1)).Nodup
  rw[Ji];exact hn
theorem Rel.unhold (H:Rel w Γ (Jp hs) st T vs h):Rel w Γ X st T vs h:=by
 refine J9 H λN own ρ m R=> ?_
 have hn:(addrs JEP).Nodup:=by
  have:=J7y
  rw[Ji] at this
  exact (J1W this).2.1
 exact⟨_,_,_,_,(JEM (hs':=[]) (h':=h) R hn (λp hp=>by cases hp) (λp hp=>by cases hp) λb o y e=>e:aA w Γ (Jp []) st T vs h _ _ _ _)⟩
theorem Rel.unholdAt (H:Rel w Γ (Jp hs) st T vs h) (k:∀b o,b∉addrs hs->JN b=some o->JW b=some o):Rel w Γ X st T vs h':=by
 refine J9 H λN own ρ m R=> ?_
 have hn:(addrs JEP).Nodup:=by
  have:=J7y
  rw[Ji] at this
  exact (J1W this).2.1
 exact⟨_,_,_,_,(JEM (hs':=[]) (h':=h') R hn (λp hp=>by cases hp) (λp hp=>by cases hp) k:aA w Γ (Jp []) st T vs h' _ _ _ _)⟩
theorem Rel.holdNew (H:Rel w Γ X st T vs h) (hn:(addrs hs').Nodup) (hf:∀p∈hs',JM<=p.1) (hg:∀p∈hs',JW p.1=some p.2) (k:∀b o,JN b=some o->JW b=some o):Rel w Γ (Jp hs') st T vs h':=by
 refine J9 H λN own ρ m R=> ?_
 have R0:aA w Γ (Jp []) st T vs h N own ρ m:=R
 refine⟨_,_,_,_,R0.reheld (hs':=hs') ?_ (λp hp=>.inr ⟨?_,?_,λq hq=> ?_⟩) hg λb o y e=>k b o e⟩
 ·refine J4J ⟨hn,J7y,λa ha b hb e=> ?_⟩
  refine e1_2 (Ja ha) λp hp er0=> ?_
  clear ha
  obtain rfl:=er0
  refine e1_2 (Ja hb) λq hq er1=> ?_
  have h2:=Jo (JH _ (J4k q hq).1).1
  clear hb
  obtain rfl:=er1
  rw[<- e] at h2
  exact absurd (J0d h2 (hf p hp)) (J0V _)
 ·cases q:J1s p.1 with
  |none=>rfl
  |some o=>exact absurd (J0d (Jo (J0v _ _ q)) (hf p hp)) (J0V _)
 ·intro e
  refine e3_2 J8l λoL es ep hL r=> ?_
  have:=Jo hL
  rw[<- e] at this
  exact absurd (J0d this (hf p hp)) (J0V _)
 ·intro e
  have:=Jo (JH q hq).1
  rw[e] at this
  exact absurd (J0d this (hf p hp)) (J0V _)
theorem Rel.turnHeld (H:Rel w Γ (Jp hs) st T vs h) (ha:addrs hs'=addrs hs) (hg:∀p∈hs',JW p.1=some p.2) (k:∀b o,b∉addrs hs->JN b=some o->JW b=some o):Rel w Γ (Jp hs') st T vs h':=by
 refine J9 H λN own ρ m R=> ?_
 refine⟨_,_,_,_,R.reheld (hs':=hs') ?_ (λp hp=>.inl ?_) hg k⟩
 ·rw[ha];have:=J7y;rw[Ji] at this;exact this
 ·rw[<- ha];exact J0n hp
theorem Rel.heldGet (H:Rel w Γ (Jp hs) st T vs h) {p:Addr×Obj}(hp:p∈hs):JN p.1=some p.2:=by
 refine J9 H λN own ρ m R=> ?_
 exact (JH _ (J4k p (J06 _ hp)).1).1
theorem Rel.heldNd (H:Rel w Γ (Jp hs) st T vs h):(addrs hs).Nodup:=by
 refine J9 H λN own ρ m R=> ?_
 have:=J7y
 rw[Ji] at this
 exact (J1W this).1
end
theorem BOk.hold {w:World}{X:Fx}(B:BOk w X) (hs:Led):BOk w (Jp hs):=⟨B.KI,JHd,B.top,B.fz⟩
theorem AOk.hold {A:J7}{X:Fx}{n:Nat}(B:AOk A X n) (hs:Led):AOk A (Jp hs) n:=⟨B.below,B.dep,B.un,B.hh⟩
theorem Cx.hold {w:World}{A:J7}{env:Env}{Γ:Nm}{X:Fx}{n:Nat}(C:Cx w A env Γ X n) (hs:Led):Cx w A env Γ (Jp hs) n:=
 ⟨J68 hs,C.toAOk.hold hs,C.toNmOk,J5h,C.nms,JB9,C.blt,C.fr,C.loc,C.cloc,C.cl,JEp,C.topo⟩
structure je (w:World) (Γ:Nm) (n:Nat) (tgt:Expr) (vt:List PV->VC Unit) (it:Value) (items:List (List PV)) (src:List EV) (srcv:List Value) (keep:St->Prop) (Inv:Nat->Led->Prop):Prop where
 next:∀{A:J7}{env:Env}{X:Fx},Cx w A env Γ X n->∀{k:Nat}{hs:Led}{vals:List PV},Inv k hs->items[k]? =some vals->∀{st:St}{T:List EV}{vs:List Value}{s:J1}{h:Heap}{t:Nat}{Q:Unit->J1->Prop}{E:Value->J1->Prop}{P:Unit->St->Prop},
  Rel w Γ (Jp hs) st (src++T) (srcv++vs) h->keep st->vt vals st P->
  (∀hs' st' h' t',Inv (k+1) hs'->Rel w Γ (Jp hs') st' (src++T) (srcv++vs) h'->P () st'->Q () (At s h' t'))->
  ae (model prog0 w) A (J70 it) (λr s1a=>match r with
   |none=>False
   |some v=>ae (model prog0 w) A (J2J tgt it v) (λy s2a=>ae (model prog0 w) A (J5d tgt env v) Q E s2a) E s1a) E (At s h t)
 self:∀{A:J7}{X:Fx}{hs:Led},Inv 0 hs->∀{st:St}{T:List EV}{vs:List Value}{s:J1}{h:Heap}{t:Nat}{Q E:Value->J1->Prop},Rel w Γ (Jp hs) st T vs h->Q it (At s h t)->ae (model prog0 w) A (J6P it) Q E (At s h t)
 stop:∀{A:J7}{env:Env}{X:Fx},Cx w A env Γ X n->∀{hs:Led},Inv J0Q hs->∀{st:St}{T:List EV}{vs:List Value}{s:J1}{h:Heap}{t:Nat}{Q:Option Value->J1->Prop}{E:Value->J1->Prop},
  Rel w Γ (Jp hs) st (src++T) (srcv++vs) h->keep st->(∀h' t',Rel w Γ X st (src++T) (srcv++vs) h'->Q none (At s h' t'))->ae (model prog0 w) A (J70 it) Q E (At s h t)
def dQ (Γ Γt:Nm) (n:Nat) (iter tgt:Expr) (vt:List PV->VC Unit) (vc:VC (List (List PV)×(St->Prop))):Prop:=
 ∀{{w:World}} {{A:J7}} {{env:Env}} {{X:Fx}},Cx w A env Γ X n->∀{{st:St}} {{T:List EV}} {{vs:List Value}} {{s:J1}} {{h:Heap}} {{t:Nat}} {{Q:Value->J1->Prop}} {{E:Value->J1->Prop}} {{P:List (List PV)×(St->Prop)->St->Prop}},
  Rel w Γ X st T vs h->vc st P->
  (∀items keep it src srcv hs Inv st' h' t',J7T=J6a->je w Γt n tgt vt it items src srcv keep Inv->Inv 0 hs->Rel w Γ (Jp hs) st' (src++T) (srcv++vs) h'->P (items,keep) st'->Q it (At s h' t'))->
  ae (model prog0 w) A (eval iter env) (λx s1a=>ae (model prog0 w) A (J6P x) Q E s1a) E (At s h t)
theorem Rel.dropSrc {w:World}{Γ:Nm}{X:Fx}{st:St}{T src:List EV}{vs srcv:List Value}{h:Heap}(hl:J7T=J6a) (H:Rel w Γ X st (src++T) (srcv++vs) h):Rel w Γ X st T vs h:=by
 refine J9 H λN own ρ m R=> ?_
 exact⟨_,_,_,_,Jj (J1N hl J62).2⟩
theorem Rel.unSrc {w:World}{Γ:Nm}{X:Fx}{st:St}{T src:List EV}{vs srcv:List Value}{h:Heap}{e:EV}{v:Value}(hl:J7T=J6a) (H:Rel w Γ X st (e::(src++T)) (v::(srcv++vs)) h):Rel w Γ X st (e::T) (v::vs) h:=by
 refine J9 H λN own ρ m R=> ?_
 refine e0_2 Jg λz zs=> ?_
 exact⟨_,_,_,_,Jj (.cons z (J1N hl zs).2)⟩
def vW (I:St->Prop) (P:Fl->St->Prop) (f:Fl) (st:St):Prop:=match f with
 | .next=>I st
 | .cont=>I st
 | .brk=>P .next st
 | .ret e=>P (.ret e) st
inductive BH (w:World) (Γ:Nm) (X:Fx) (items:List (List PV)) (Inv:Nat->Led->Prop) (src:List EV) (srcv:List Value) (T:List EV) (vs:List Value) (s:J1) (J:Nat->St->Prop) (c:Nat) (s':J1):Prop
 |mk (k:Nat) (hs':Led) (st':St) (h':Heap) (t':Nat) (e:s'=At s h' t') (hk:k<=J0Q) (hc:c=J0Q - k) (I:Inv k hs') (H:Rel w Γ (Jp hs') st' (src++T) (srcv++vs) h') (hJ:J k st')
theorem yX {Γ:Nm}{n:Nat}{tgt iter:Expr}{body:List Stmt}{pos:Pos}{vt:List PV->VC Unit}{vi:VC (List (List PV)×(St->Prop))}{vb:VC Fl}(hi:dQ Γ Γ n iter tgt vt vi) (hb:mK Γ n body vb)
  (hf:∀env x,J2K iter env x=pure x):
  jc Γ n (.For tgt iter body [] pos) (λst P=>vi st λ(ik:List (List PV)×(St->Prop)) st1=>∃J:Nat->St->Prop,J 0 st1/\
   (∀k x st2,ik.1[k]? =some x->J k st2->∀K:St->Prop,(∀st,J (k+1) st->K st)->ik.2 st2/\vt x st2 λy st3=>vb st3 (vW K P))/\(∀st2,J ik.1.length st2->ik.2 st2/\P .next st2)):=by
 intro w A env X C st T vs s h t E P H hv
 refine wx (hi C H hv λitems keep it src srcv hs Inv st1 h1 t1 hl IT I0 H1 hv1=> ?_) (hf env)
 refine e1_3 hv1 λJ J0 turn fin=> ?_
 clear hv1
 dsimp only at turn fin
 refine gN (BH w Γ X items Inv src srcv T vs s J) ?_ J0Q ⟨0,hs,st1,h1,t1,rfl,J1m _,rfl,I0,H1,J0⟩
 rintro c s' ⟨k,hs',st',h',t',rfl,hk,rfl,I,H',hJ⟩
 by_cases hlt:k<J0Q
 ·refine e1_1 (f0 hlt) λx hx=> ?_
  refine e0_2 (turn k x st' hx hJ _ λy z=>z) λhkeep ht=> ?_
  refine ag (IT.next C I hx (s:=s) (t:=t') (E:=bg (model prog0 w) A env λe s'=>ed (model prog0 w) A env E e s') (Q:=λy s2a=>ae (model prog0 w) A (execs body env) (λf s3a=>match f with
      | .next| .cont=>∃m,m<J0Q - k/\BH w Γ X items Inv src srcv T vs s J m s3a
      | .brk=>FlQ w Γ X T vs s P .next s3a
      | .ret v=>FlQ w Γ X T vs s P (.ret v) s3a) (bg (model prog0 w) A env λe s'=>ed (model prog0 w) A env E e s') s2a) H' hkeep ht λhs₂ st2a h2a t2a I2 H2a hP=> ?_) (λr s1a hr=> ?_) λy y z=>z
  ·have hd:J0Q - (k+1)<J0Q - k:=Nat.sub_lt_sub_left hlt (J1n k)
   clear hv hkeep ht hJ H' J0 I0 turn fin
   refine ag (hb (JEr hs₂) H2a hP (s:=s) (t:=t2a)) (λf s3a hf'=> ?_) λy y z=>z
   obtain⟨st3a,h3a,t3a,rfl,hf'⟩:=hf'
   cases f with
   |next=>exact (az _ hd ⟨k+1,hs₂,st3a,h3a,t3a,rfl,hlt,rfl,I2,hf'.1,hf'.2⟩)
   |cont=>exact (az _ hd ⟨k+1,hs₂,st3a,h3a,t3a,rfl,hlt,rfl,I2,hf'.1,hf'.2⟩)
   |brk=>exact⟨st3a,h3a,t3a,rfl,JHM hl hf'.1.unhold,hf'.2⟩
   |ret v=>
    refine e1_2 hf' λev q1 q2=> ?_
    clear hf'
    exact⟨st3a,h3a,t3a,rfl,(az ev (Rel.unSrc hl q1.unhold) q2)⟩
  ·cases r with
   |none=>exact JH5
   |some v=>exact hr
 ·have hk':k=J0Q:=by exact z20 0x10111010a10931082 hk hlt
  subst hk'
  refine e0_2 (fin st' hJ) λhkeep hP=> ?_
  refine IT.stop C I H' hkeep λh2a t2a H2a=> ?_
  exact dD ⟨st',h2a,t2a,rfl,JHM hl H2a,hP⟩
section
variable {w:World}{Γ Γ₂:Nm}{X:Fx}{st:St}{T:List EV}{vs:List Value}{h h':Heap}{N M:Led}{own:Own}{ρ:List Addr}{m:Str->Option Value}
def um (own:Own) (M:Led) (lab:Addr->Lab):Own:=λa=>if a∈addrs M then lab a else own a
theorem aA.reform (R:aA w Γ X st T vs h N own ρ m) {Lc₂:Option Addr}{hs₂:Led}{co₂:List (Option EV)}{D:List Addr}{lab:Addr->Lab}(hln:Γ₂.ln=Γ.ln)
  (hD:∀a∈D,own a≠.fz/\(∀i,own a≠.slot i)/\∀i,own a≠.cell i) (hDN:∀a∈D,∃o,(a,o)∈N) (hM:∀p∈M,p.1∈D∨(J1s p.1=none/\p.1≠X.L/\∀q∈N,q.1≠p.1)) (hg:∀p∈M,JW p.1=some p.2)
  (k:∀b o,b∉D->JN b=some o->JW b=some o)
  (hco:(∀a o,aI JA N own a o->aI JA (M++ledNo N D) (um own M lab) a o)->∀c,Lc₂=some c->um own M lab c=.comp/\∃o es ep,(c,o)∈M++ledNo N D/\J2v=.dict es ep/\JBk es/\
   ∀(i:Nat) (x:Str) (e:EV),Γ₂.kn[i]? =some x->co₂[i]? =some (some e)->∃v,J8R es x=some v/\EVR (aI JA (M++ledNo N D) (um own M lab)) ρ e v)
  (hh:∀p∈hs₂,p∈M++ledNo N D/\um own M lab p.1=.held) (hnd:(addrs hs₂).Nodup):
  aA w Γ₂ { X with Lc:=Lc₂,hs:=hs₂ } { st with co:=co₂ } T vs h' (M++ledNo N D) (um own M lab) ρ m:=by
 have hr:∀(i:Nat) (a:Addr),ρ[i]? =some a->ρ[i]? =some a:=λy y h=>h
 have nb:∀{b o},J1s b=some o->b∉D:=λ{b o} e z=>by
  refine e1_1 (hDN b z) λo' hm=> ?_
  have:=(JH _ hm).2.2
  rw[show J1s b=none from this] at e;cases e
 have off:∀{a o},(a,o)∈N->a∉D->(a,o)∈M++ledNo N D/\um own M lab a=own a:=λ{a o} hm h1=>by
  refine⟨J0A _ (J9a ⟨hm,h1⟩),JL λz=> ?_⟩
  refine e1_2 (Ja z) λp hp er0=> ?_
  clear z
  obtain rfl:=er0
  rcases hM p hp with q|q
  ·exact h1 q
  ·exact q.2.2 _ hm rfl
 have mz:∀a o,aI JA N own a o->aI JA (M++ledNo N D) (um own M lab) a o:=by
  rintro a o (q|⟨q1,q2⟩)
  ·exact .inl q
  ·refine e0_2 (off q1 λz=>(hD a z).1 q2) λz1 z2=> ?_
   exact .inr ⟨z1,J9m q2⟩
 have nL:X.L∉D:=λz=>by
  refine e1_1 (hDN _ z) λo' hm=> ?_
  exact (JH _ hm).2.1 rfl
 refine e3_2 J8l λoL es ep hL r=> ?_
 refine⟨⟨(pZ oL es ep (k _ _ nL hL) r),λb o e=>k b o (nb e) (J0v b o e),J6J⟩,?_,?_,?_,hco mz,?_,JBn,?_,R.pre,R.tmp.mono mz hr,hh,hnd⟩
 ·intro p hp
  rcases J08 hp with q|q
  ·refine⟨hg p q,?_⟩
   rcases hM p q with z|z
   ·refine e1_1 (hDN _ z) λo' hm=> ?_
    exact (JH _ hm).2
   ·exact⟨z.2.1,z.1⟩
  ·refine e0_2 (bL.mp q) λq1 q2=> ?_
   exact⟨k _ _ q2 (JH p q1).1,(JH p q1).2⟩
 ·intro i x e h1 h2
  refine e1_2 (R.lo i x e (hln▸h1) h2) λv q1 q2=> ?_
  exact (az v q1 (J5p mz hr))
 ·intro i c h1
  obtain⟨q1,o,ov,q2,q3,q4⟩:=R.ce i c h1
  refine e0_2 (off q2 λz=>(hD c z).2.2 i q1) λz1 z2=> ?_
  exact (cD (J9m q1) o ov z1 q3 (λe q=>let ⟨v,y1,y2⟩:=q4 e q;(az v y1 (JDY mz hr))))
 ·intro i a so h1 h2
  rcases R.rho i a so h1 h2 with q|q
  ·exact .inl q
  ·by_cases hd:so=.dead
   ·exact .inl hd
   ·refine e1_1 ((J96 i a so h1 h2).in hd) λo ho=> ?_
    exact .inr ((off ho λz=>(hD a z).2.1 i q).2.trans q)
 ·intro i a so h1 h2
  by_cases hd:so=.dead
  ·clear h2
   subst hd;exact .dead
  ·exact (J96 i a so h1 h2).mono mz hr (λb o hb q=>(off q λz=>(hD b z).2.1 i hb).1) (λb o hb q=>(off q λz=>(hD b z).2.1 i hb).2) (J2h h1 h2 hd)
theorem aA.fresh (R:aA w Γ X st T vs h N own ρ m) {a:Addr}(ha:JM<=a):J1s a=none/\a≠X.L/\∀q∈N,q.1≠a:=by
 refine⟨?_,?_,?_⟩
 ·cases q:J1s a with
  |none=>rfl
  |some o=>exact absurd (J0d (Jo (J0v _ _ q)) ha) (J0V _)
 ·intro e
  refine e3_2 J8l λoL es ep hL r=> ?_
  have:=Jo hL
  rw[<- e] at this
  exact absurd (J0d this ha) (J0V _)
 ·intro q hq e
  have:=Jo (JH q hq).1
  rw[e] at this
  exact absurd (J0d this ha) (J0V _)
theorem Rel.enterComp {hs:Led}(H:Rel w Γ (Jp hs) st T vs h) {co:List (Option EV)}(hln:Γ₂.ln=Γ.ln) (hco:∀(i:Nat) (e:EV),co[i]?≠some (some e)) (hs₂:Led) (hsub:∀p∈hs,p∈hs₂) (hnew:∀p∈hs₂,p∈hs∨(JM<=p.1)) {c:Addr}(hc:JM<=c)
  (hcn:∀p∈hs₂,p.1≠c) (hn2:(addrs hs₂).Nodup) (hg:∀p∈hs₂,JW p.1=some p.2) (hns:h'.Ns c λu=>none) (k:∀b o,JN b=some o->JW b=some o):
  Rel w Γ₂ ((J36 c).hold hs₂) { st with co:=co } T vs h':=by
 refine J9 H λN own ρ m R=> ?_
 refine e3_4 hns λoc es ep hoc hd hk hf=> ?_
 clear hns
 have dis:∀p∈JEP,p.1∉addrs hs:=λp hp z=>by
  have:=J7y
  rw[Ji] at this
  exact (J1W this).2.2 _ z _ (J0n hp) rfl
 have hH:∀p∈hs,p∈N/\own p.1=.held:=λp hp=>J4k p (J06 _ hp)
 have offX:∀p∈JEP,p.1∉addrs ((c,oc)::hs₂):=λp hp z=>by
  refine e1_2 (Ja z) λq hq e=> ?_
  have hN:=(J4k p (J0A _ hp)).1
  rcases Jf hq with rfl|hq
  ·exact (J8k hc).2.2 p hN J5x
  ·rcases hnew q hq with y|y
   ·exact dis p hp (e▸J0n y)
   ·exact (J8k y).2.2 p hN J5x
 refine⟨_,_,_,_,R.reform (Γ₂:=Γ₂) (M:=(c,oc)::hs₂) (D:=addrs hs) (lab:=λa=>if a=c then .comp else .held) (Lc₂:=some c) (hs₂:=hs₂++JEP) (co₂:=co) hln ?_ ?_ ?_ ?_ (λb o u e=>k b o e) ?_ ?_ ?_⟩
 ·intro a ha
  refine e1_2 (Ja ha) λp hp er0=> ?_
  obtain rfl:=er0
  refine ((hH p hp).2).symm▸?_
  exact (i_aa (λz=>(by cases z)) (λi z=>(by cases z)) (λi z=>(by cases z)))
 ·intro a ha
  refine e1_2 (Ja ha) λp hp er1=> ?_
  obtain rfl:=er1
  exact⟨_,(hH p hp).1⟩
 ·intro p hp
  rcases Jf hp with rfl|hp
  ·exact .inr (J8k hc)
  ·rcases hnew p hp with q|q
   ·exact .inl (J0n q)
   ·exact .inr (J8k q)
 ·intro p hp
  rcases Jf hp with rfl|hp
  ·exact hoc
  ·exact hg p hp
 ·intro mz c' hc'
  cases hc'
  refine (bU ?_ oc es ep (J06 _ JB) hd hk (λi x e u q=>absurd q (hco i e)))
  exact (JC (J1o (az _ JB rfl))).trans (JC rfl)
 ·intro p hp
  rcases J08 hp with q|q
  ·refine⟨J06 _ (Jk _ q),?_⟩
   exact (JC (J1o (az _ (Jk _ q) rfl))).trans (JL (hcn p q))
  ·refine e0_2 (J4k p (J0A _ q)) λz1 z2=> ?_
   refine⟨J0A _ (J9a ⟨z1,dis p q⟩),?_⟩
   exact (JL (offX p q)).trans z2
 ·show (addrs (hs₂++JEP)).Nodup
  unfold addrs
  rw[Ji]
  refine J4J (i_aa hn2 ?_ (λa ha b hb e=> ?_))
  ·have:=J7y;rw[Ji] at this;exact (J1W this).2.1
  ·refine e1_2 (Ja ha) λp hp er2=> ?_
   clear ha
   obtain rfl:=er2
   refine e1_2 (Ja hb) λq hq er3=> ?_
   clear hb
   obtain rfl:=er3
   exact offX q hq (J1o (az p (Jk _ hp) e))
end
section
variable {w:World}{Γ Γ₂:Nm}{X:Fx}{st:St}{T:List EV}{vs:List Value}{h h':Heap}{N M:Led}{own:Own}{ρ:List Addr}{m:Str->Option Value}
theorem Rel.freezeHeld {D:Addr}{o:Obj}(H:Rel w Γ (Jp [(D,o)]) st T vs h) {p:PV}{T':List EV}{vs':List Value}
  (q:∀fz ρ,EVs fz ρ T vs->fz D o->EVs fz ρ T' vs'/\PR fz p (.ref D)):Rel w Γ X st (.pv p::T') (.ref D::vs') h:=by
 refine J9 H λN own ρ m R=> ?_
 refine e0_2 (J4k (D,o) JB) λhN hO=> ?_
 dsimp only at hO
 have R':=R.reform (Γ₂:=Γ) (M:=[(D,o)]) (D:=[D]) (lab:=λy=>.fz) (Lc₂:=X.Lc) (hs₂:=JEP) (co₂:=JDi) (h':=h) rfl
  (λa ha=>by obtain rfl:=JQ ha;rw[hO];exact (i_aa (λz=>(by cases z)) (λi z=>(by cases z)) (λi z=>(by cases z)))) (λa ha=>by obtain rfl:=JQ ha;exact⟨_,hN⟩)
  (λp hp=>by obtain rfl:=JQ hp;exact .inl JB) (λp hp=>by obtain rfl:=JQ hp;exact (JH _ hN).1) (λb o y e=>e)
  (λmz c hc=>by
   obtain⟨q1,oc,es,ep,q2,q3,q5,q4⟩:=R.co c hc
   have hne:c∉[D]:=λz=>by rw[JQ z,hO] at q1;cases q1
   refine (bU ((JL hne).trans q1) oc es ep (J0A _ (J9a ⟨q2,hne⟩)) q3 q5 (λi x e y1 y2=> ?_))
   refine e1_2 (q4 i x e y1 y2) λv z1 z2=> ?_
   exact (az v z1 (J44 mz λy y z=>z)))
  (λp hp=>by
   refine e0_2 (J4k p (Jk _ hp)) λz1 z2=> ?_
   have hne:p.1∉[D]:=λz=>by
    have:=J7y
    exact (J0S this).1 (J1o (az p hp (JQ z)))
   exact⟨J0A _ (J9a ⟨z1,hne⟩),(JL hne).trans z2⟩)
  (J0S J7y).2
 refine e0_2 (q _ _ J7o (.inr ⟨J06 _ JB,JC JB⟩)) λa b=> ?_
 exact⟨_,_,_,_,J1e (.cons (.pv b) a)⟩
end
def lL (nm:List (Str×J1T)) (names:List (Str×J1T)):List (Str×J1T):=names.map λx=>if (x.2== .free&&J8S x.1==some .cell) then (x.1,.cell) else (x.1,x.2)
theorem oj {scope:Scope}{env:Env}{f:Str->Addr}(h:∀x,(x,J1R)∈J17->J1A x=some (f x)):
  ∃cl,J47 scope env=pure cl/\∀x,(x,J1R)∈J17->J4F x=some (f x):=by
 have key:∀(names:List (Str×J1T)) (acc:List (Str×Addr)),(∀x,(x,J1R)∈names->J1A x=some (f x))->
   ∃cl,(forIn names acc λ(x:Str×J1T) (r:List (Str×Addr))=>(if (x.2==J1R)=true then do let c <- cellOf env x.1;pure (J1I ((x.1,c)::r)) else pure (J1I r):J1M (ForInStep (List (Str×Addr)))))=pure cl/\
    (∀x,(x,J1R)∈names->J4F x=some (f x))/\∀x,(∀y,JCq x=some y->y=f x)->JCq x≠none->J4F x=some (f x):=by
  intro names
  induction names with
  |nil=>intro acc _;exact (i_eaa acc rfl (λx hx=>(by cases hx)) (λx h1 h2=>by cases q:JCq x with |none=>exact absurd q h2|some y=>rw[h1 y q]))
  |cons p r ih=>
   obtain⟨nm,kd⟩:=p
   intro acc hh
   have hr:∀x,(x,J1R)∈r->J1A x=some (f x):=λx hx=>hh x (Jk _ hx)
   cases hk:kd==J1R with
   |true=>
    refine e1_3 (ih ((nm,f nm)::acc) hr) λcl q1 q2 q3=> ?_
    have hkd:kd=.free:=by simpa using hk
    subst hkd
    refine (i_eaa cl ?_ (λx hx=> ?_) (λx h1 h2=>q3 x (λy hy=> ?_) λz=> ?_))
    ·rw[J3s]
     unfold cellOf
     refine (hh nm JB).symm▸?_
     exact q1
    ·rcases Jf hx with e|hx
     ·cases e
      exact q3 nm (λy hy=>by rw[J4O,J0p] at hy;exact (JT hy).symm) (by rw[J4O,J0p];intro z;cases z)
     ·exact q2 x hx
    ·rw[J4O] at hy
     cases e:x==nm with
     |true=>
      rw[e] at hy
      rw[JA1 e]
      exact (JT hy).symm
     |false=>rw[e] at hy;exact h1 y hy
    ·rw[J4O] at z
     cases e:x==nm with
     |true=>rw[e] at z;cases z
     |false=>rw[e] at z;exact h2 z
   |false=>
    refine e1_3 (ih acc hr) λcl q1 q2 q3=> ?_
    refine (i_eaa cl ?_ (λx hx=> ?_) q3)
    ·rw[J3s,hk]
     exact q1
    ·rcases Jf hx with e|hx
     ·clear hh hx
      cases e;cases hk
     ·exact q2 x hx
 refine e1_3 (key J17 [] h) λcl q1 q2 _=> ?_
 refine (az cl ?_ q2)
 exact JD (·>>=pure) q1
def o8 (Γ:Nm) (n:Nat) (ifs:List Expr) (vc:VC Bool):Prop:=
 ∀{{w:World}} {{A:J7}} {{env:Env}} {{X:Fx}},Cx w A env Γ X n->∀{{st:St}} {{T:List EV}} {{vs:List Value}} {{s:J1}} {{h:Heap}} {{t:Nat}} {{Q:Bool->J1->Prop}} {{E:Value->J1->Prop}} {{P:Bool->St->Prop}},
  Rel w Γ X st T vs h->vc st P->(∀b st' h' t',Rel w Γ X st' T vs h'->P b st'->Q b (At s h' t'))->
  ae (model prog0 w) A (forIn ifs true λc r=>if r=true then do let ok <- J0N c env (eval c env);pure (J1I ok) else pure (J1I r)) Q E (At s h t)
theorem wS {Γ:Nm}{n:Nat}:o8 Γ n [] (λst P=>P true st):=by
 intro w A env X C st T vs s h t Q E P H hv hQ
 exact kK (hQ true st h t H hv)
theorem wR {Γ:Nm}{n:Nat}{c:Expr}{vc:VC Bool}(hc:eV Γ n c vc):o8 Γ n [c] vc:=by
 intro w A env X C st T vs s h t Q E P H hv hQ
 exact kJ (hc C H hv hQ)
theorem gb {prog:J3Z}{w:World}{A:J7}{R:J4y->J1->Prop}{s:J1}{elt target iter:Expr}{ifs:List Expr}{scope:Scope}{pos:Pos}{it acc:Value}{env:Env}(I:Nat->J1->Prop)
  (turn:∀n s,I n s->ae (model prog w) A (J70 it) (λr s1a=>match r with
   |none=>R (.ok .next) s1a
   |some v=>ae (model prog w) A (J2J target it v) (λy s1'=>ae (model prog w) A (J5d target env v) (λy s2a=>
     ae (model prog w) A (forIn ifs true λc r=>if r=true then do let ok <- J0N c env (eval c env);pure (J1I ok) else pure (J1I r)) (λok s3a=>
      if ok=true then ae (model prog w) A (eval elt env) (λx s4a=>
       ae (model prog w) A (call (.builtin "list.append") [acc,x]) (λy s5a=>∃m,m<n/\I m s5a) (bg (model prog w) A env λe s'=>R (.error e) s') s4a) (bg (model prog w) A env λe s'=>R (.error e) s') s3a
      else ∃m,m<n/\I m s3a) (bg (model prog w) A env λe s'=>R (.error e) s') s2a) (bg (model prog w) A env λe s'=>R (.error e) s') s1') (bg (model prog w) A env λe s'=>R (.error e) s') s1a) (bg (model prog w) A env λe s'=>R (.error e) s') s)
  (n:Nat) (h:I n s):aC (model prog w) A (.compLoop (.ListComp elt [⟨target,iter,ifs,0⟩] scope pos) 0 it acc env) R s:=by
 refine qz rfl I (λn s hI=> ?_) n h
 show ae _ A ((compTurn (.ListComp elt [⟨target,iter,ifs,0⟩] scope pos) 0 it acc env).onRaise (λx=>do J5r x env;J5m x)) _ _ s
 refine ek ?_
 rw[compTurn_list]
 refine aa (am (aa (ag (turn n s hI) (λr s1a h1a=> ?_) λy y z=>z)))
 cases r with
 |none=>exact af h1a
 |some v=>
  refine aa (ag h1a (λy s1' h1'=> ?_) λy y z=>z)
  refine aa (ag h1' (λy s2a h2a=>aa (ag h2a (λok s3a h3a=> ?_) λy y z=>z)) λy y z=>z)
  cases ok with
  |false=>exact af ⟨rfl,h3a⟩
  |true=>exact aa (aa (ag h3a (λx s4a h4a=>aa (ag h4a (λy s5a h5a=>af (af ⟨rfl,h5a⟩)) λy y z=>z)) λy y z=>z))
def Bx:EV->Option PV
 | .pv p=>some p
 |_=>none
theorem qO {e:EV}{p:PV}(q:Bx e=some p):e=.pv p:=by cases e<;>cases q;rfl
def AA (e:EV) (k:PV->Prop):Prop:=aj (Bx e) k
structure fv (Γ Γc:Nm) (scope:Scope):Prop where
 out:Γ.comp=false
 comp:Γc.comp=true
 top:Γc.top=false
 ln:Γc.ln=Γ.ln
 cn:Γc.cn=Γ.cn
 nm:lL Γ.nm J17=Γc.nm
 ok:NmOk Γc
 kind:J7U=.function
 nocell:∀x∈J17,x.2≠.cell
 loc:∀x∈J17,x.2=.local->J21 x.1=some .local
 free:∀x,(x,J1R)∈J17->x∈Γ.cn/\(x,J1S)∈Γ.nm
 back:∀x,(x,J1S)∈Γc.nm->(x,J1R)∈J17
def yk (vi:VC (List (List PV)×(St->Prop))) (vt:List PV->VC Unit) (vtest:VC Bool) (ve:VC EV) (nk:List (Option EV)):VC EV:=λst P=>vi st λ(ik:List (List PV)×(St->Prop)) st1=>ik.1.length<=bc/\∃J:Nat->List PV->St->Prop,J 0 [] { st1 with co:=nk }/\
 (∀k acc x st2,ik.1[k]? =some x->J k acc st2->ik.2 st2/\vt x st2 λy st3=>vtest st3 λb st4=>ifB b (ve st4 λe st5=>AA e λp=>J (k+1) (acc++[p]) st5) (J (k+1) acc st4))/\
 (∀acc st2,J ik.1.length acc st2->ik.2 st2/\P (.pv (.lst acc)) { st2 with co:=[] })
theorem eM (X:Fx) (a b:Led):(Jp a).hold b=Jp (b++a):=by simp [Fx.hold]
inductive qY (w:World) (Γc:Nm) (X:Fx) (D:Addr) (items:List (List PV)) (Inv:Nat->Led->Prop) (src:List EV) (srcv:List Value) (T:List EV) (vs:List Value) (s:J1) (J:Nat->List PV->St->Prop) (cnt:Nat) (s':J1):Prop
 |mk (k:Nat) (hs':Led) (acc:List PV) (ys:Array Value) (nn:Nat) (st':St) (h':Heap) (t':Nat) (e:s'=At s h' t') (hk:k<=J0Q) (hc:cnt=J0Q - k) (I:Inv k hs') (ha:acc.length<=k) (hay:acc.length=ys.size)
  (H:Rel w Γc (Jp (hs'++[(D,bG ys nn)])) st' (src++(JBj .pv++T)) (srcv++(JDX++vs)) h') (hJ:J k acc st')
theorem o5 {Γ Γc:Nm}{n:Nat}{elt tgt iter:Expr}{ifs:List Expr}{scope:Scope}{pos:Pos}{vt:List PV->VC Unit}{vtest:VC Bool}{ve:VC EV}{nk:List (Option EV)}(ht:o8 Γc n ifs vtest) (he:Sem Γc n elt ve) (hO:fv Γ Γc scope) (hnk:∀(i:Nat) (e:EV),nk[i]?≠some (some e))
  {w:World}{A:J7}{env:Env}{X:Fx}(C:Cx w A env Γ X n) {items:List (List PV)}{keep:St->Prop}{it:Value}{src:List EV}{srcv:List Value}{hs:Led}{Inv:Nat->Led->Prop}{st1:St}{T:List EV}{vs:List Value}{h1:Heap}{t1:Nat}{s:J1}
  (hl:J7T=J6a) (IT:je w Γc n tgt vt it items src srcv keep Inv) (I0:Inv 0 hs) (H1:Rel w Γ (Jp hs) st1 (src++T) (srcv++vs) h1) (hXc:X.Lc=none) {cl:List (Str×Addr)}(hcl:∀x,(x,J1R)∈J17->J4F x=J1A x)
  (hsz:J0Q<=bc) {J:Nat->List PV->St->Prop}(J0:J 0 [] { st1 with co:=nk })
  (turn:∀k acc x st2,items[k]? =some x->J k acc st2->keep st2/\vt x st2 λ_ st3=>vtest st3 λb st4=>ifB b (ve st4 λe st5=>AA e λp=>J (k+1) (acc++[p]) st5) (J (k+1) acc st4))
  (fin:∀acc st2,J J0Q acc st2->keep st2)
  {RR:Value->Addr->J4y->J1->Prop}{E:Value->J1->Prop}
  (hRR:∀D c acc st2 h2 t2,J J0Q acc st2->Rel w Γc (J36 c) st2 (.pv (.lst acc)::T) (.ref D::vs) h2->RR (.ref D) c (.ok .next) (At s h2 t2)):
  ae (model prog0 w) A (newList []) (λacc s3a=>ae (model prog0 w) A (J6Q scope J4g cl [] JFZ none .none (some env)) (λcenv s4a=>
   aC (model prog0 w) A (.compStart (.ListComp elt [⟨tgt,iter,ifs,0⟩] scope pos) 0 it acc { cenv with scope:=J8L scope env }) (RR acc J5O) s4a) E s3a) E (At s h1 t1):=by
 refine av (J1K (av (JBD hO.nocell (by intro y hy;cases hy) (λh1a hns hsb=> ?_) JE2)))
 have hsb:J0m (J6g (bG #[] 0)).objs.size ((J6g (bG #[] 0)).push { cls:=.type "dict",data:=.dict #[] }) h1a:=hsb
 have hsz1:(J6g (bG #[] 0)).objs.size=Jz+1:=J10 ..
 have kp:∀b o,J8a b=some o->h1a.get? b=some o:=λb o e=>JCh b o (by rw[hsz1];exact J0O (J38 (Jo e))) (JY _ (JY _ e))
 have hhs:∀p∈hs,p.1<Jz:=λp hp=>Jo (H1.heldGet hp)
 have hDC:Jz≠(J6g (bG #[] 0)).objs.size:=by rw[hsz1];exact J0O (J1n _)
 have H2:Rel w Γc ((J36 (J6g (bG #[] 0)).objs.size).hold (hs++[(Jz,bG #[] 0)])) { st1 with co:=nk } (src++T) (srcv++vs) h1a:=by
  refine H1.enterComp hO.ln hnk (hs++[(Jz,bG #[] 0)]) (λp hp=>J06 _ hp) (λp hp=> ?_) (by rw[hsz1];exact J4n _) (λp hp=> ?_) ?_ (λp hp=> ?_) hns kp
  ·rcases J08 hp with q|q
   ·exact .inl q
   ·obtain rfl:=JQ q;exact .inr (Jb _)
  ·rcases J08 hp with q|q
   ·rw[hsz1];exact J0O (J38 (hhs p q))
   ·obtain rfl:=JQ q;exact hDC
  ·unfold addrs
   rw[Ji]
   refine J4J (i_aa H1.heldNd (by simp) (λa ha b hb e=> ?_))
   refine e1_2 (Ja ha) λp hp er0=> ?_
   clear ha
   obtain rfl:=er0
   have hb':b=Jz:=by simpa using hb
   exact absurd (hhs p hp) (by rw[e,hb'];exact J0V _)
  ·rcases J08 hp with q|q
   ·exact kp _ _ (H1.heldGet q)
   ·obtain rfl:=JQ q;exact (JCh _ _ hDC (JY _ (J09 _ rfl)))
 generalize hc:(J6g (bG #[] 0)).objs.size=c at H2
 have Cc:∀hs',Cx w A (compEnvC scope cl c env) Γc ((J36 c).hold hs') n:=λhs'=>by
  refine⟨⟨C.KI,JEq,JHc,C.fz⟩,⟨C.below,C.dep,C.un,C.hh⟩,hO.ok,JE2,?_,JB9,C.blt,C.fr,λz=>(by rw[hO.comp] at z;cases z),λ_=>(az c rfl rfl),λi x hx hm=> ?_,λz=>(by rw[hO.comp] at z;cases z),λz=>(by rw[hO.top] at z;cases z)⟩
  ·refine (hO.nm)▸?_
   refine J0o λx hx=> ?_
   have:(J1O==ScopeKind.function)=true:=by rw[J5h];rfl
   show (if (x.2== .free&&J1O== .function&&J34 x.1==some .cell)=true then (x.1,J1S) else (x.1,x.2))=_
   rw[this,Bool.and_true]
   show (if (x.2== .free&&JAI x.1==some .cell)=true then _ else _)=_
   rw[C.nms]
  ·have hf:=hO.back x hm
   refine e0_2 (hO.free x hf) λ_ hcell=> ?_
   refine e1_2 (C.cl i x (hO.cn▸hx) hcell) λa y1 y2=> ?_
   exact (az a y1 (by show J4F x=_;rw[hcl x hf,y2]))
 have loop:∀(A':Unit),aC (model prog0 w) A (.compLoop (.ListComp elt [⟨tgt,iter,ifs,0⟩] scope pos) 0 it (.ref Jz) (compEnvC scope cl c env)) (RR (.ref Jz) c) (At s h1a t1):=by
  intro _
  refine gb (qY w Γc (J36 c) Jz items Inv src srcv T vs s J) ?_ J0Q ⟨0,hs,[],#[],0,{ st1 with co:=nk },h1a,t1,rfl,J1m _,rfl,I0,Jb _,rfl,H2,J0⟩
  rintro cnt s' ⟨k,hs',acc,ys,nn,st',h',t',rfl,hk,rfl,I,ha,hay,H',hJ⟩
  by_cases hlt:k<J0Q
  ·refine e1_1 (f0 hlt) λx hx=> ?_
   have hX:(J36 c).hold (hs'++[(Jz,bG ys nn)])=((J36 c).hold [(Jz,bG ys nn)]).hold hs':=(eM _ _ _).symm
   refine e0_2 (turn k acc x st' hx hJ) λhkeep hturn=> ?_
   rw[hX] at H'
   refine ag (IT.next (Cc [(Jz,bG ys nn)]) I hx (s:=s) (t:=t') (E:=bg (model prog0 w) A (compEnvC scope cl c env) λe s'=>RR (.ref Jz) c (.error e) s')
    (Q:=λ_ s2a=>ae (model prog0 w) A (forIn ifs true λc' r=>if r=true then do let ok <- J0N c' (compEnvC scope cl c env) (eval c' (compEnvC scope cl c env));pure (J1I ok) else pure (J1I r)) (λok s3a=>
      if ok=true then ae (model prog0 w) A (eval elt (compEnvC scope cl c env)) (λx s4a=>
       ae (model prog0 w) A (call (.builtin "list.append") [.ref Jz,x]) (λ_ s5a=>∃m,m<J0Q - k/\qY w Γc (J36 c) Jz items Inv src srcv T vs s J m s5a) (bg (model prog0 w) A (compEnvC scope cl c env) λe s'=>RR (.ref Jz) c (.error e) s') s4a) (bg (model prog0 w) A (compEnvC scope cl c env) λe s'=>RR (.ref Jz) c (.error e) s') s3a
      else ∃m,m<J0Q - k/\qY w Γc (J36 c) Jz items Inv src srcv T vs s J m s3a) (bg (model prog0 w) A (compEnvC scope cl c env) λe s'=>RR (.ref Jz) c (.error e) s') s2a)
    H' hkeep hturn λhs₂ st2a h2a t2a I2 H2a hP=> ?_) (λr s1a hr=> ?_) λ_ _ z=>z
   ·refine ht ((Cc [(Jz,bG ys nn)]).hold hs₂) H2a hP λb st3a h3a t3a H3a hb=> ?_
    clear hsz1
    cases b with
    |false=>
     refine (az (J0Q - (k+1)) (by exact z40 0x100100010010100001110010109231b182930b3293 hlt fS fS) ⟨k+1,hs₂,acc,ys,nn,st3a,h3a,t3a,rfl,hlt,rfl,I2,by exact z20 0x111819081081 ha,hay,?_,hb⟩)
     rw[<- eM];exact H3a
    |true=>
     refine he ((Cc [(Jz,bG ys nn)]).hold hs₂) H3a hb λev v st4a h4a t4a H4a hev=> ?_
     refine e1_2 (ah hev) λp er hev=> ?_
     obtain rfl:=qO er
     rw[eM] at H4a
     have hDm:(Jz,bG ys nn)∈hs₂++[(Jz,bG ys nn)]:=J0A _ JB
     have hnd:=H4a.heldNd
     refine av (JEL (s:=At s h4a t4a) (H4a.heldGet hDm) (λh5a hs5 ho5=> ?_) (fit_le (by exact z50 0x11101110824903a4381284 hsz ha hay hlt)))
     refine (az (J0Q - (k+1)) (by exact z40 0x100100010010100001110010109231b182930b3293 hlt fS fS) ⟨k+1,hs₂,acc++[p],JGj v,nn+1,st4a,h5a,t4a,rfl,hlt,rfl,I2,by simp;omega,by simp [hay],?_,hev⟩)
     have H5:=H4a.turnHeld (hs':=hs₂++[(Jz,bG (JGj v) (nn+1))]) (h':=h5a) (by simp [addrs]) (λq hq=> ?_) (λb o hb e=>J6G b o (λz=>hb (by rw[z];exact J0n hDm)) e)
     ·refine J9 H5 λN own ρ m R=> ?_
      refine e0_2 Jg λz zs=> ?_
      refine e0_2 (J1N hl zs) λq1 q2=> ?_
      refine e0_2 (J1N (es:=JBj .pv) (ws:=JDX) (by simpa using hay) q2) λq3 q4=> ?_
      have:EVs (aI (J36 c).fz0 N own) ρ (src++((acc++[p]).map .pv++T)) (srcv++((JGj v).toList++vs)):=by
       rw[Ji,J7j]
       exact J5q ((J8N (.cons z .nil)).append q4)
      exact⟨_,_,_,_,Jj this⟩
     ·rcases J08 hq with y|y
      ·refine J6G _ _ (λz=> ?_) (H4a.heldGet (J06 _ y))
       unfold addrs at hnd
       rw[Ji] at hnd
       exact (J1W hnd).2.2 _ (J0n y) _ JB z
      ·obtain rfl:=JQ y;exact ho5
   ·cases r with
    |none=>exact JH5
    |some v=>exact hr
  ·have hk':k=J0Q:=by exact z20 0x10111010a10931082 hk hlt
   subst hk'
   have hX:(J36 c).hold (hs'++[(Jz,bG ys nn)])=((J36 c).hold [(Jz,bG ys nn)]).hold hs':=(eM _ _ _).symm
   rw[hX] at H'
   refine IT.stop (Cc [(Jz,bG ys nn)]) I H' (fin acc st' hJ) λh2a t2a H2a=> ?_
   refine hRR _ _ acc st' h2a t2a hJ (H2a.freezeHeld λfz ρ q hz=> ?_)
   have:∀{ps:List PV}{ws:List Value},EVs fz ρ (JC9 .pv) ws->PRs fz ps ws:=by
    intro ps
    induction ps with
    |nil=>intro ws h;cases h;exact .nil
    |cons p ps ih=>intro ws h;cases h with |cons a b=>cases a with |pv a=>exact .cons a (ih b)
   refine e0_2 (J1N hl q) λq1 q2=> ?_
   refine e0_2 (J1N (es:=JBj .pv) (ws:=JDX) (by simpa using hay) q2) λq3 q4=> ?_
   refine⟨q4,.lst hz ?_⟩
   exact this q3
 show aC (model prog0 w) A (.compStart (.ListComp elt [⟨tgt,iter,ifs,0⟩] scope pos) 0 it (.ref Jz) (compEnvC scope cl c env)) (RR (.ref Jz) c) (At s h1a t1)
 exact fq (loop ()) (IT.self (X:=(J36 c).hold [(Jz,bG #[] 0)]) I0 (by rw[eM];exact H2) (loop ()))
theorem Rel.compToHeld {w:World}{Γ Γ₂:Nm}{X:Fx}{st:St}{T:List EV}{vs:List Value}{h:Heap}{c:Addr}(H:Rel w Γ₂ (J36 c) st T vs h) (hX:X.Lc=none) (hln:Γ.ln=Γ₂.ln) (co:List (Option EV)):
  ∃oc es ep,oc.data=.dict es ep/\JBk es/\Rel w Γ (Jp [(c,oc)]) { st with co:=co } T vs h:=by
 refine J9 H λN own ρ m R=> ?_
 obtain⟨q1,o,es,ep,q2,q3,q5,_⟩:=R.co c rfl
 refine (cC o es ep q3 q5 ?_)
 refine⟨_,_,_,_,aA.reform (X:=(J36 c)) R (Γ₂:=Γ) (M:=[(c,o)]) (D:=[c]) (lab:=λy=>.held) (Lc₂:=X.Lc) (hs₂:=(c,o)::JEP) (co₂:=co) (h':=h) hln ?_ ?_ ?_ ?_ (λb o' y e=>e) (λy c hc=>by rw[hX] at hc;cases hc) ?_ ?_⟩
 ·intro a ha
  refine (JQ ha).symm▸?_
  refine (q1).symm▸?_
  exact (i_aa (λz=>(by cases z)) (λi z=>(by cases z)) (λi z=>(by cases z)))
 ·intro a ha
  refine (JQ ha).symm▸?_
  exact⟨_,q2⟩
 ·intro p hp
  obtain rfl:=JQ hp
  exact .inl JB
 ·intro p hp
  obtain rfl:=JQ hp
  exact (JH _ q2).1
 ·intro p hp
  rcases Jf hp with rfl|hp
  ·exact⟨J06 _ JB,JC JB⟩
  ·refine e0_2 (J4k p hp) λz1 z2=> ?_
   have hne:p.1∉[c]:=λz=>by rw[JQ z,q1] at z2;cases z2
   exact⟨J0A _ (J9a ⟨z1,hne⟩),(JL hne).trans z2⟩
 ·refine J1c ⟨λz=> ?_,J7y⟩
  obtain⟨p,hp,e⟩:=Ja z
  have:=(J4k p hp).2
  rw[e,q1] at this;cases this
section
variable {Γ Γc:Nm}{n:Nat}{elt tgt iter:Expr}{ifs:List Expr}{scope:Scope}{pos:Pos}{vt:List PV->VC Unit}{vi:VC (List (List PV)×(St->Prop))}{vtest:VC Bool}{ve:VC EV}{nk:List (Option EV)}
theorem fv.clos (hO:fv Γ Γc scope) {w:World}{A:J7}{env:Env}{X:Fx}(C:Cx w A env Γ X n):∃cl,J47 scope env=pure cl/\∀x,(x,J1R)∈J17->J4F x=J1A x:=by
 have h:∀x,(x,J1R)∈J17->∃c,J1A x=some c:=λx hx=>by
  refine e0_2 (hO.free x hx) λh1 h2=> ?_
  refine e1_1 (J15 h1) λi hi=> ?_
  refine e1_2 (C.cl i x hi h2) λc y hc=> ?_
  exact⟨c,hc⟩
 obtain⟨cl,q1,q2⟩:=oj (scope:=scope) (env:=env) (f:=λx=>(J1A x).getD 0) λx hx=>by obtain⟨c,hc⟩:=h x hx;rw[hc];rfl
 refine (az cl q1 (λx hx=> ?_))
 refine e1_1 (h x hx) λc hc=> ?_
 rw[q2 x hx,hc];rfl
theorem yK (hi:dQ Γ Γc n iter tgt vt vi) (ht:o8 Γc n ifs vtest) (he:Sem Γc n elt ve) (hO:fv Γ Γc scope) (hnk:∀(i:Nat) (e:EV),nk[i]?≠some (some e)) (hf:∀env x,J2K iter env x=pure x):
  Sem Γ n (.ListComp elt [⟨tgt,iter,ifs,0⟩] scope pos) (yk vi vt vtest ve nk):=by
 intro w A env X C st T vs s h t Q E P H hv hQ
 refine e1_2 (hO.clos C) λcl hc1 hc2=> ?_
 refine cK (g:=⟨tgt,iter,ifs,0⟩) (gs:=[]) rfl (hf env) hc1 JE2 hO.loc ?_
 refine hi C H hv λitems keep it src srcv hs Inv st1 h1 t1 hl IT I0 H1 hv1=> ?_
 obtain⟨hsz,J,J0,turn,fin⟩:=hv1
 refine o5 (J:=J) (RR:=λacc c r s'=>mA (model prog0 w) A E none Q acc c r s') ht he hO hnk C hl IT I0 H1 (JEp JGD) hc2 hsz J0 turn (λacc st2 z=>(fin acc st2 z).1) λD c acc st2 h2 t2 hJ H2=> ?_
 refine e3_3 (JFs (Γ:=Γ) (JEp JGD) hO.ln.symm []) λoc es ep hd hk H3=> ?_
 refine (az (J8R es) (Cz (H3.heldGet JB) hd hk) (λh' hs'=> ?_))
 refine hQ _ _ { st2 with co:=[] } h' t2 ?_ (fin acc st2 hJ).2
 exact H3.unholdAt λb o hb e=>J9V b o (by simpa [addrs] using hb) e
theorem kN {x:Str}{px:Pos}{spos:Pos}{vc:EV->VC Unit}(hi:dQ Γ Γc n iter tgt vt vi) (ht:o8 Γc n ifs vtest) (he:Sem Γc n elt ve) (hO:fv Γ Γc scope) (hnk:∀(i:Nat) (e:EV),nk[i]?≠some (some e)) (hf:∀env x,J2K iter env x=pure x)
  (hs:cZ Γ n x vc) (hw:∀{w A env X},Cx w A env Γ X n->J33 [.Name x px] (.ListComp elt [⟨tgt,iter,ifs,0⟩] scope pos) spos.line env=pure true):
  jc Γ n (.Assign [.Name x px] (.ListComp elt [⟨tgt,iter,ifs,0⟩] scope pos) spos) (λst P=>yk vi vt vtest ve nk st λe st1=>vc e st1 λy st2=>P .next st2):=by
 intro w A env X C st T vs s h t E P H hv
 refine e1_2 (hO.clos C) λcl hc1 hc2=> ?_
 refine aa (am ?_)
 refine (hw C).symm▸?_
 refine aa (af ?_)
 refine aa (aa (cK (g:=⟨tgt,iter,ifs,0⟩) (gs:=[]) rfl (hf env) hc1 JE2 hO.loc ?_))
 refine hi C H hv λitems keep it src srcv hs' Inv st1 h1 t1 hl IT I0 H1 hv1=> ?_
 obtain⟨hsz,J,J0,turn,fin⟩:=hv1
 refine o5 (J:=J) (RR:=λacc c r s'=>mA (model prog0 w) A E _ _ acc c r s') ht he hO hnk C hl IT I0 H1 (JEp JGD) hc2 hsz J0 turn (λacc st2 z=>(fin acc st2 z).1) λD c acc st2 h2 t2 hJ H2=> ?_
 refine e3_3 (JFs (Γ:=Γ) (JEp JGD) hO.ln.symm []) λoc es ep hd hk H3=> ?_
 refine kj (hs (JEr [(c,oc)]) H3 (fin acc st2 hJ).2 λst3 h3 t3 H4 hP=> ?_)
 refine (az (J8R es) (Cz (H4.heldGet JB) hd hk) (λh' hs'=> ?_))
 exact af (af ⟨st3,h',t3,rfl,H4.unholdAt λb o hb e=>J9V b o (by simpa [addrs] using hb) e,hP⟩)
end
theorem AOk.down {A:J7}{X:Fx}{n n':Nat}(a:AOk A X n') (h:n<=n'):AOk A X n:=⟨a.below,by have:=a.dep;exact z30 0x1133843f813b0993843f823b0992182 h this,by have:=a.un;exact z40 0x11142f212c3f81142fb0999212c3f83142fb09993182 h this,a.hh⟩
theorem ac.up {n n':Nat}{a:Addr}{k:Nat}{spec:jb}(h:ac n a k spec) (hn:n<=n'):ac n' a k spec:=λw A Γ X B AO=>h B (AO.down hn)
def DN (J:Nat->St->Prop) (k:Nat) (P:Fl->St->Prop) (f:Fl) (st:St):Prop:=match f with
 | .next=>∃m,m<k/\J m st
 | .cont=>∃m,m<k/\J m st
 | .brk=>P .next st
 | .ret e=>P (.ret e) st
section
variable {Γ:Nm}{n:Nat}
theorem tU {test:Expr}{body:List Stmt}{pos:Pos}{vt:VC Bool}{vb:VC Fl}(ht:eV Γ n test vt) (hb:mK Γ n body vb):
  jc Γ n (.While test body [] pos) (λst P=>∃(J:Nat->St->Prop) (k0a:Nat),J k0a st/\∀k st1,J k st1->vt st1 λb st2=>ifB b (vb st2 (DN J k P)) (P .next st2)):=by
 intro w A env X C st T vs s h t E P H hv
 refine e2_2 hv λJ k0a J0 turn=> ?_
 clear hv
 refine q8 (i0 (λk s'=>∃st' h' t',s'=At s h' t'/\Rel w Γ X st' T vs h'/\J k st') ?_ k0a (cC st h t rfl H J0))
 intro k s' hq9
 refine e3_3 hq9 λst' h' t' er0 H' hJ=> ?_
 clear hq9
 refine Jm▸?_
 refine ht C H' (turn k st' hJ) λb st2 h2 t2 H2 hb2=> ?_
 cases b with
 |false=>
  exact dD ⟨st2,h2,t2,rfl,H2,hb2⟩
 |true=>
  refine ag (hb C H2 hb2 (s:=s) (t:=t2)) (λf s3a hf=> ?_) λy y z=>z
  obtain⟨st3a,h3a,t3a,rfl,hf⟩:=hf
  cases f with
  |next=>obtain⟨hr,m,hm,hJ'⟩:=hf;exact (jE m hm st3a h3a t3a rfl hr hJ')
  |cont=>obtain⟨hr,m,hm,hJ'⟩:=hf;exact (jE m hm st3a h3a t3a rfl hr hJ')
  |brk=>exact⟨st3a,h3a,t3a,rfl,hf⟩
  |ret v=>exact⟨st3a,h3a,t3a,rfl,hf⟩
theorem wU {e:Expr}{pos:Pos}{va:VC EV}(ha:Sem Γ n e va) (hs:Jl (∀env,JDe e none J6E env=pure false) Jn):
  jc Γ n (.Expr e pos) (λst P=>va st λy st1=>P .next st1):=by
 intro w A env X C st T vs s h t E P H hv
 refine fR (ha C H hv λev v st' h' t' H' hP=>⟨st',h',t',rfl,H'.pop,hP⟩) ?_ (hs env)
 unfold J8Y;rw[J5h];rfl
end
def bh (n:Nat) (f:Value) (prim:List EV->VC EV):Prop:=
 ∀{{w:World}} {{A:J7}} {{Γ:Nm}} {{X:Fx}},BOk w X->AOk A X n->∀{{st:St}} {{T:List EV}} {{vs:List Value}} {{args:List EV}} {{ws:List Value}} {{s:J1}} {{h:Heap}} {{t:Nat}} {{Q:Value->J1->Prop}} {{E:Value->J1->Prop}} {{P:EV->St->Prop}},
  J1J=Jx->Rel w Γ X st (args++T) (ws++vs) h->prim args st P->(∀ev v st' h' t',Rel w Γ X st' (ev::T) (v::vs) h'->P ev st'->Q v (At s h' t'))->
   ae (model prog0 w) A (call f ws) Q E (At s h t)
def FE (k:Nat) (spec:jb):List EV->VC EV:=λas st P=>J2b=k/\qF spec as st P
theorem ac.callAs {n:Nat}{a:Addr}{k:Nat}{spec:jb}(h:ac n a k spec):bh n (.ref a) (FE k spec):=by
 intro w A Γ X B AO st T vs args ws s hh t Q E P hl H hv hQ
 exact bB (h B AO hl hv.1 H hv.2 hQ)
section
variable {Γ:Nm}{n:Nat}
theorem Rel.keepK {w:World}{Γ:Nm}{X:Fx}{st:St}{T:List EV}{vs:List Value}{h:Heap}(H:Rel w Γ X st T vs h) (B:BOk w X):JCL h:=by
 refine J9 H λN own ρ m R=> ?_
 exact JDB J0v
theorem fk {M:Model}{A:J7}{E:Value->J1->Prop}{s:J1}{f:Value}{Q:Args->J1->Prop}(h:ae M A (J3T []) (λvs s'=>Q ⟨vs,[]⟩ s') E s):ae M A (J6H f true [] []) Q E s:=by
 unfold J6H
 show ae M A (J3T []>>=_) Q E s
 refine aa (ag h (λvs s' h'=> ?_) λy y x=>x)
 refine ai ?_
 exact aa (af (aa (af (af h'))))
def bX (args:List Expr):Prop:=args=[]∨∃e rest,args=e::rest/\(∀env,Je (e::rest) env=(false,eval e env)::Je rest env)/\∀(env:Env) (pos:Pos),(J00 pos (Je rest env)).any (·.1)=false
theorem ul:bX []:=.inl rfl
theorem uk {e:Expr}{rest:List Expr}(h:∀env,Je (e::rest) env=(false,eval e env)::Je rest env) (h2:∀(env:Env) (pos:Pos),(J00 pos (Je rest env)).any (·.1)=false):bX (e::rest):=.inr (l7 e rest rfl h h2)
def jR (f:Value):Prop:=(∃a,f=.ref a/\∀w K,KOk w K->keepIn K f=true)∨(∃id,f=.builtin id)∨∃T,f=.type T
theorem mD {w:World}{A:J7}{env:Env}{X:Fx}(C:Cx w A env Γ X n) {f:Value}{args:List Expr}{va:VC (List EV)}(ha:gj Γ n args va)
  (hs:bX args) (hk:jR f) {pos:Pos}
  {st:St}{T:List EV}{vs:List Value}{firstv:List Value}{s:J1}{h:Heap}{t:Nat}{Q:Value->J1->Prop}{E:Value->J1->Prop}{G:List EV->St->Prop}
  (H:Rel w Γ X st T vs h) (hv:va st G)
  (hc:∀as ws st1 h1 t1,J2b=Jx->Rel w Γ X st1 (as++T) (ws++vs) h1->G as st1->ae (model prog0 w) A (call f (firstv++ws)) Q E (At s h1 t1)):
  ae (model prog0 w) A (J2C pos f firstv (J00 pos (Je args env)) []) Q E (At s h t):=by
 have main:ae (model prog0 w) A (J3T (J00 pos (Je args env))) (λws s1a=>JCL J46/\ae (model prog0 w) A (call f (firstv++ws)) Q E s1a) E (At s h t):=
  ha C H hv λas ws st1 h1 t1 hl1 H1 hv1=>⟨H1.keepK J1q,hc as ws st1 h1 t1 hl1 H1 hv1⟩
 have main2:(J00 pos (Je args env)).any (·.1)=false/\ae (model prog0 w) A (J6H f true (J00 pos (Je args env)) []) (λa s1a=>JCL J46/\ae (model prog0 w) A (call f (firstv++JFg) a.kw) Q E s1a) E (At s h t):=by
  clear ha hc
  rcases hs with rfl|⟨e,rest,rfl,he,hp⟩
  ·exact⟨rfl,fk main⟩
  ·rw[he] at main ⊢
   exact⟨by show (false||(J00 pos (Je rest env)).any (·.1))=false;rw[hp];rfl,cW main⟩
 obtain⟨hp,main2⟩:=main2
 clear ha hc main
 rcases hk with⟨a,rfl,hk⟩|⟨id,rfl⟩|⟨T',rfl⟩
 ·exact dA (by rw[hp];rfl) (JDx (hk w _ JEq)) main2
 ·exact eR hp (ag main2 (λy y z=>z.2) λy y z=>z)
 ·exact om hp (ag main2 (λy y z=>z.2) λy y z=>z)
theorem iq {w:World}{A:J7}{env:Env}{X:Fx}(C:Cx w A env Γ X n) {f:Value}{prim:List EV->VC EV}{args:List Expr}{va:VC (List EV)}(hc:bh n f prim) (ha:gj Γ n args va)
  (hs:bX args) (hk:jR f) {pos:Pos}
  {st:St}{T:List EV}{vs:List Value}{first:List EV}{firstv:List Value}{s:J1}{h:Heap}{t:Nat}{Q:Value->J1->Prop}{E:Value->J1->Prop}{P:EV->St->Prop}
  (hl:first.length=firstv.length) (H:Rel w Γ X st (first++T) (firstv++vs) h) (hv:va st λas st1=>prim (first++as) st1 P)
  (hQ:∀ev v st' h' t',Rel w Γ X st' (ev::T) (v::vs) h'->P ev st'->Q v (At s h' t')):
  ae (model prog0 w) A (J2C pos f firstv (J00 pos (Je args env)) []) Q E (At s h t):=
 mD C ha hs hk H hv λas ws st1 h1 t1 hl1 H1 hv1=>by
  refine hc J1q J54 (args:=first++as) (by simp [hl,hl1]) ?_ hv1 hQ
  refine J9 H1 λN own ρ m R=> ?_
  refine e0_2 (J1N hl1 J62) λq1 q2=> ?_
  refine e0_2 (J1N hl q2) λq3 q4=> ?_
  exact⟨N,own,ρ,m,Jj (by rw[J0U,J0U];exact J8N (J5q q4))⟩
theorem oS {id:Str}{p pos:Pos}{f:Value}{args:List Expr}{prim:List EV->VC EV}{va:VC (List EV)}{j:Nat}(hf:Sem Γ n (.Name id p) (λst P=>P (.pv (.val f)) st)) (hk:jR f) (hc:bh n f prim) (ha:gj Γ n args va) (hs:bX args):
  Sem Γ n (.Call (.Name id p) args [] pos) (λst P=>va st λas st1=>prim as st1 P):=by
 intro w A env X C st T vs s h t Q E P H hv hQ
 refine bR (hf C (P:=λev st'=>ev=.pv (.val f)/\va st' λas st1=>prim as st1 P) H ⟨rfl,hv⟩ λev v st1 h1 t1 H1 hv1=> ?_)
 obtain⟨rfl,hv1⟩:=hv1
 refine e2_1 JBu λfz ρ z=> ?_
 have e:v=f:=by cases z with |pv z=>cases z;rfl
 refine J5x▸?_
 exact iq C hc ha hs hk (first:=[]) (firstv:=[]) rfl JEh hv1 hQ
end
def pW (e:EV) (st:St):Option Addr:=match e with
 | .pv (.inst C _)=>some C
 | .loc i=>(match nth J5 i with
  |some (.inst C _)=>some C
  |_=>none)
 |_=>none
def findA {α:Type}(k:Nat):List (Nat×α)->Option α:=lR none λp y r=>match p with |(j,a)=>cond (J1z k j) (some a) r
theorem qb {α:Type}{k j:Nat}{a:α}{r:List (Nat×α)}:findA k ((j,a)::r)=cond (J1z k j) (some a) (findA k r):=rfl
def pw {α:Type}(k:Nat) (b:α):List (Nat×α)->List (Nat×α):=lR [(k,b)] λp r t=>match p with |(j,a)=>cond (J1z k j) ((j,b)::r) ((j,a)::t)
theorem tP {α:Type}{k j:Nat}{a b:α}{r:List (Nat×α)}:pw k b ((j,a)::r)=cond (J1z k j) ((j,b)::r) ((j,a)::pw k b r):=rfl
def vn (e:EV) (st:St) (k:Nat):Option EV:=match e with
 | .pv (.inst _ as)=>(findA k as).map .pv
 | .loc i=>(match nth J5 i with
  |some (.inst _ as)=>findA k as
  |_=>none)
 |_=>none
set_option tactic.hygienic true in
theorem EVa.find {fz:FzP}{ρ:List Addr}{as:List (Nat×EV)}{es:List J0g}(h:EVa fz ρ as es) {k:Nat}(hk:k<J1L):(match findA k as with
  |some ev=>∃e,JFX (·.key.isStr (ak k))=some e/\EVR fz ρ ev e.val
  |none=>JFX (·.key.isStr (ak k))=none)/\es.any (·.refKey)=false:=by
 induction h with
 |nil=>exact⟨rfl,rfl⟩
 |cons hkk hl h _ ih=>
  rename_i j p e t as es _
  have hr:e.refKey=false:=by unfold JDV;rw[hkk]
  have hs:JBf (ak k)=(ak j==ak k):=by rw[hkk];rfl
  refine⟨?_,by rw[JAB,hr,ih.2];rfl⟩
  rw[qb]
  clear hkk
  cases q:J1z k j with
  |true=>
   have:=J19 q
   clear hl q
   subst this
   exact (az e (J43 (by rw[hs];exact J0p _)) h)
  |false=>
   rw[J2l (by rw[hs,(J5P λz=>J40 q (cY hl hk z).symm)];decide)]
   exact ih.1
theorem EVa.look {fz:FzP}{ρ:List Addr}{as:List (Nat×EV)}{es:List J0g}(h:EVa fz ρ as es) {k m:Nat}(hk:k<J1L):match findA k as with
  |some ev=>∃v,JAe (ak k) (J5c es m)=some (some v)/\EVR fz ρ ev v
  |none=>JAe (ak k) (J5c es m)=some none:=by
 refine e0_2 (JGF hk) λh1 h2=> ?_
 unfold JAe J5c
 dsimp only
 cases q:findA k as with
 |some ev=>
  rw[q] at h1
  refine e1_2 h1 λe z1 z2=> ?_
  clear h1
  exact (az e.val (by rw[z1]) z2)
 |none=>
  rw[q] at h1
  dsimp only at h1 ⊢
  rw[h1];dsimp only;rw[JL (by rw[h2];decide)]
theorem EVa.ofPRa {fz:FzP}{ρ:List Addr}:∀{as:List (Nat×PV)}{es:List J0g},PRa fz as es->EVa fz ρ (J9c λp=>(p.1,.pv p.2)) es
 |[],_,h=>by cases h;exact .nil
 |_::_,_,h=>by cases h with |cons hk hl h hs=>exact .cons hk hl (.pv h) (EVa.ofPRa hs)
theorem xC {as:List (Nat×PV)}{k:Nat}:findA k (J9c λp=>(p.1,EV.pv p.2))=(findA k as).map .pv:=by
 induction as with
 |nil=>rfl
 |cons p as ih=>
  obtain⟨j,a⟩:=p
  show cond (J1z k j) _ _=JCy _ (cond (J1z k j) _ _)
  cases J1z k j with
  |true=>rfl
  |false=>exact ih
set_option tactic.hygienic true in
theorem AB {e:EV}{st:St}{C:Addr}(q:pW e st=some C):(∃as,e=.pv (.inst C as))∨∃i as,e=.loc i/\J5[i]? =some (.inst C as):=by
 cases e with
 |pv p=>cases p<;>cases q;exact .inl ⟨_,rfl⟩
 |bad=>cases q
 |loc i=>
  have q:(match nth J5 i with |some (.inst C _)=>some C|_=>none)=some C:=q
  rw[aZ] at q
  revert q
  cases z:J5[i]? with
  |none=>intro q;cases q
  |some so=>cases so<;>intro q<;>cases q;exact .inr ⟨_,_,rfl,z⟩
theorem aA.inst {w:World}{Γ:Nm}{X:Fx}{st:St}{T:List EV}{vs:List Value}{h:Heap}{N:Led}{own:Own}{ρ:List Addr}{m:Str->Option Value}(B:BOk w X) (H:aA w Γ X st T vs h N own ρ m)
  {e:EV}{v:Value}{C:Addr}(he:EVR (aI JA N own) ρ e v) (hi:pW e st=some C):
  ∃x d es n as,v=.ref x/\InstAt h x (J3l C d) C (some (J5c es n))/\EVa (aI JA N own) ρ as es/\∀k,vn e st k=findA k as:=by
 refine J3a (AB hi) (λh1=> ?_) λh1=> ?_
 ·refine e1_1 h1 λas er=> ?_
  subst er
  refine e4_4 JCj λx d es n er hx hd ha=> ?_
  exact⟨x,d,es,n,_,er,⟨JHW B hx,rfl,rfl,JHW B hd⟩,EVa.ofPRa ha,λk=>xC.symm⟩
 ·refine e2_2 h1 λi as er q=> ?_
  clear h1 hi
  subst er
  refine e1_2 JAj λa er hρ=> ?_
  refine e3_5 (JCR i a _ hρ q).inv λd es n hx hd ho hne ha=> ?_
  refine⟨a,d,es,n,as,er,⟨(JD4 _ hx).1,rfl,rfl,(JD4 _ hd).1⟩,ha,λk=> ?_⟩
  show (match nth J5 i with |some (.inst _ as)=>findA k as|_=>none)=_
  rw[aZ,q]
def uj:EV->Bool
 | .pv (.val _)=>false
 | .bad=>false
 |_=>true
theorem nN {fz:FzP}{ρ:List Addr}{e:EV}{v:Value}(h:EVR fz ρ e v) (hp:uj e=true):handedIn v=true:=by
 cases e with
 |bad=>cases hp
 |loc i=>refine e1_2 J7x λa er y=> ?_;rw[er];rfl
 |pv p=>cases p with
  |val=>cases hp
  |none=>rw[J1D];rfl
  |bool=>rw[J1D];rfl
  |int=>refine e1_1 J1D λt er=> ?_;rw[er];rfl
  |str=>refine e1_1 J1D λt er=> ?_;rw[er];rfl
  |bytes=>refine e2_2 J1D λa t er y=> ?_;rw[er];rfl
  |tup=>refine e3_3 J1D λa i n er y y=> ?_;rw[er];rfl
  |lst=>refine e3_3 J1D λa i n er y y=> ?_;rw[er];rfl
  |inst=>refine e4_4 J1D λx d es n er y y y=> ?_;rw[er];rfl
  |rng=>refine e4_2 J1D λy y y y er y=> ?_;rw[er];rfl
theorem j7 {K:Frag}{C:Addr}{attrs:List Nat}(O:jr K C attrs) {k:Nat}(hk:k∈attrs) {od:Obj}{v:Value}(hv:JAe (ak k) od=some (some v)):findObj K C (some od) (ak k)=some (.value v):=by
 refine e1_2 (any_some O.hd) λcd hc hd=> ?_
 refine e0_3 (O.at_ k hk) λy h2 h3=> ?_
 unfold findObj
 rw[hc,h3]
 show ((W.ownOf cd (some od) (ak k)).bind _)=_
 unfold W.ownOf
 rw[JC hd]
 dsimp only
 rw[hv]
 rfl
def Dn (C:Addr) (k:Nat):EV->VC EV:=λe st P=>pW e st=some C/\aj (vn e st k) λev=>uj ev=true/\P ev st
section
variable {Γ:Nm}{n:Nat}
set_option tactic.hygienic true in
theorem Rel.attr {w:World}{A:J7}{X:Fx}(B:BOk w X) {C:Addr}{attrs:List Nat}{k:Nat}(O:jr X.K C attrs) (hk:k∈attrs) {st:St}{T:List EV}{vs:List Value}{e:EV}{v:Value}{s:J1}{h:Heap}{t:Nat}{Q E:Value->J1->Prop}{expr:Bool}{P:EV->St->Prop}
  (H:Rel w Γ X st (e::T) (v::vs) h) (hv:Dn C k e st P) (hQ:∀ev v' st' h' t',Rel w Γ X st' (ev::T) (v'::vs) h'->P ev st'->Q v' (At s h' t')):ae (model prog0 w) A (getAttr v (ak k) expr) Q E (At s h t):=by
 have KI:=H.keepK B
 refine J9 H λN own ρ m R=> ?_
 refine e0_2 hv λh1 hv=> ?_
 refine e0_2 Jg λz zs=> ?_
 refine e5_4 (R.inst B z h1) λx d es nn as er0 I ha hat=> ?_
 clear z
 refine Jm▸?_
 rw[hat] at hv
 have L:=JH9 (m:=nn) (O.at_ k hk).1
 refine e1_2 (ah hv) λev q hv=> ?_
 rw[q] at L
 refine e1_2 L λv' l1 l2=> ?_
 clear L
 exact av (get_value (s:=At s h t) KI I O.ga (j7 O hk l1) (nN l2 hv.1) (hQ ev v' st h (t+1) ⟨N,own,ρ,m,Jj (.cons l2 zs)⟩ hv.2))
theorem yS {o:Expr}{pos:Pos}{vo:VC EV}{C:Addr}{attrs:List Nat}{k:Nat}{x:Str}(ho:Sem Γ n o vo) (hO:∀w K,KOk w K->jr K C attrs) (hk:k∈attrs) (hx:x=ak k)
  (he:∀env,eval (.Attribute o x pos) env=(do
   let o' <- eval o env
   standAt pos.atName
   let r <- holding [o'] (getAttr o' x true)
   J6R o o' r
   pure r)):Sem Γ n (.Attribute o x pos) (λst P=>vo st λa st1=>Dn C k a st1 P):=by
 subst hx
 intro w A env X C' st T vs s h t Q E P H hv hQ
 exact gt (ho C' H hv λev v st1 h1 t1 H1 hv1=>Rel.attr JAG (hO w _ JGi) hk H1 hv1 hQ) (he env)
def Dp (kk:Option Nat) (e:EV) (st:St):Prop:=match kk with
 |none=>True
 |some k=>vn e st k=none
def wq (name:Str) (kk:Option Nat):Prop:=match kk with
 |some k=>k<J1L/\ak k=name
 |none=>name∉aF
set_option tactic.hygienic true in
theorem EVa.lookNo {fz:FzP}{ρ:List Addr}{as:List (Nat×EV)}{es:List J0g}(h:EVa fz ρ as es) {m:Nat}{name:Str}(hn:name∉aF):JAe name (J5c es m)=some none:=by
 have:JFX (·.key.isStr name)=none/\es.any (·.refKey)=false:=by
  induction h with
  |nil=>exact⟨rfl,rfl⟩
  |cons hkk hl h _ ih=>
   rename_i j p e t as es _
   have hs:JBf name=(ak j==name):=by rw[hkk];rfl
   have hr:e.refKey=false:=by unfold JDV;rw[hkk]
   have hne:(ak j==name)=false:=J5P λz=>hn (by
    rw[<- z];unfold ak
    rw[JAw,Jy hl];exact J5g hl)
   exact⟨by rw[J2l (by rw[hs,hne];decide)];exact ih.1,by rw[JAB,hr,ih.2];rfl⟩
 unfold JAe J5c
 dsimp only
 rw[this.1];dsimp only;rw[JL (by rw[this.2];decide)]
theorem EVa.shadow {fz:FzP}{ρ:List Addr}{as:List (Nat×EV)}{es:List J0g}(h:EVa fz ρ as es) {m:Nat}{name:Str}{kk:Option Nat}(hk:wq name kk) (hn:match kk with |none=>True|some k=>findA k as=none):shadowIn (some (J5c es m)) name=some false:=by
 unfold shadowIn
 cases kk with
 |none=>dsimp only;rw[h.lookNo hk];rfl
 |some k=>
  obtain⟨h1,rfl⟩:=hk
  have:=h.look (m:=m) h1
  rw[hn] at this
  dsimp only at this ⊢
  rw[this];rfl
theorem tR {o:Expr}{name:Str}{apos pos:Pos}{args:List Expr}{vo:VC EV}{va:VC (List EV)}{C f:Addr}{attrs:List Nat}{kk:Option Nat}{prim:List EV->VC EV}(ho:Sem Γ n o vo) (hO:∀w K,KOk w K->jr K C attrs) (hM:∀w K,KOk w K->mO K C name f)
  (hkk:wq name kk) (hk:jR (.ref f)) (hc:bh n (.ref f) prim) (ha:gj Γ n args va) (hs:bX args) (pl:Env->J1M Bool)
  (he:∀env,eval (.Call (.Attribute o name apos) args [] pos) env=(do
   let ov <- eval o env
   standAt J8g
   let (f,first) <- holding [ov] (getMethod ov name (pl env))
   J2C pos f first (J00 pos (Je args env)) (J4Y pos (J2V [] env)))):
  Sem Γ n (.Call (.Attribute o name apos) args [] pos) (λst P=>vo st λa st1=>pW a st1=some C/\Dp kk a st1/\va st1 λas st2=>prim (a::as) st2 P):=by
 intro w A env X C' st T vs s h t Q E P H hv hQ
 refine dq (pl:=pl env) (ho C' H hv λev v st1 h1 t1 H1 hv1=> ?_) (he env)
 refine e0_3 hv1 λi1 i2 hv1=> ?_
 have O:=hO w _ JGi
 refine J9 H1 λN own ρ m R=> ?_
 have M:=hM w _ JGi
 refine e0_2 Jg λz zs=> ?_
 refine e5_4 (R.inst JAG z i1) λx d es nn as er0 I hat hf=> ?_
 clear R z
 obtain rfl:=er0
 refine av (method_fn (s:=At s h1 t1) (H1.keepK JAG) I O.ga O.gk JGT M.ty (hat.shadow hkk ?_) ?_)
 ·cases kk with
  |none=>trivial
  |some k=>have:=i2;unfold Dp at this;dsimp only at this ⊢;rw[<- hf];exact this
 ·exact iq C' hc ha hs hk (first:=[ev]) (firstv:=[.ref x]) rfl H1 hv1 hQ
end
set_option tactic.hygienic true in
theorem EVa.put {fz:FzP}{ρ:List Addr}{as:List (Nat×EV)}{es:List J0g}(h:EVa fz ρ as es) {k:Nat}(hk:k<J1L) {ev:EV}{v:Value}(hv:EVR fz ρ ev v) {hsh:Int}{tk:Tok}:
  EVa fz ρ (pw k ev as) (putL (ak k) hsh (.str (ak k) tk) v es):=by
 induction h with
 |nil=>exact .cons rfl hk hv .nil
 |cons hkk hl h h2 ih=>
  rename_i j p e t as es
  have hs:JBf (ak k)=(ak j==ak k):=by rw[hkk];rfl
  rw[tP]
  unfold putL
  refine (hs).symm▸?_
  clear hs
  cases q:J1z k j with
  |true=>
   have:=J19 q
   rw[this]
   rw[JC (J0p _)]
   exact .cons hkk hl hv h2
  |false=>
   have hne:(ak j==ak k)=false:=J5P λz=>J40 q (cY hl hk z).symm
   rw[JL (by rw[hne];decide)]
   exact .cons hkk hl h ih
theorem EVa.len {fz:FzP}{ρ:List Addr}{as:List (Nat×EV)}{es:List J0g}(h:EVa fz ρ as es):J1H=J2b:=by
 induction h with
 |nil=>rfl
 |cons _ _ _ _ ih=>simp [ih]
theorem yz {α:Type}{k:Nat}{b:α}{l:List (Nat×α)}:(pw k b l).length<=JV+1:=by
 induction l with
 |nil=>exact Jb _
 |cons p r ih=>
  obtain⟨j,a⟩:=p
  rw[tP]
  cases J1z k j with
  |true=>exact J4n _
  |false=>exact J2e ih
def Dk {α:Type}(l:List α):Bool:=J8p JV 64
def zE (C:Addr) (k:Nat) (eo ea:EV):VC Unit:=λst P=>match eo with
 | .loc i=>(match nth J5 i with
  |some (.inst C' as)=>C'=C/\Dk as=true/\P () { st with sl:=upd J5 i (.inst C (pw k ea as)) }
  |_=>False)
 |_=>False
section
variable {Γ:Nm}{n:Nat}
theorem get_lt' {α:Type}{l:List α}{i:Nat}{a:α}(h:l[i]? =some a):i<JV:=by
 rcases J1Y i JV with q|q
 ·exact q
 ·rw[J0H q] at h;cases h
set_option tactic.hygienic true in
theorem Rel.setAttr {w:World}{A:J7}{X:Fx}(B:BOk w X) {C:Addr}{attrs:List Nat}{k:Nat}(O:jr X.K C attrs) (hk:k∈attrs) {st:St}{T:List EV}{vs:List Value}{eo ea:EV}{vo va:Value}{s:J1}{h:Heap}{t:Nat}{Q:Unit->J1->Prop}{E:Value->J1->Prop}{P:Unit->St->Prop}
  (H:Rel w Γ X st (eo::ea::T) (vo::va::vs) h) (hv:zE C k eo ea st P) (hQ:∀st' h' t',Rel w Γ X st' T vs h'->P () st'->Q () (At s h' t')):ae (model prog0 w) A (PySem.setAttr vo (ak k) va) Q E (At s h t):=by
 refine J9 H λN own ρ m R=> ?_
 refine e0_3 J14 λz z2 zs=> ?_
 unfold zE at hv
 split at hv
 ·rename_i i
  refine e1_2 JDW λ_ er0 hρ=> ?_
  refine Jm▸?_
  rename_i a
  rw[aZ] at hv
  cases q:J5[i]? with
  |none=>rw[q] at hv;exact J7a
  |some so=>
   replace hv:=(q)▸hv
   have S:=J96 i a so hρ q
   cases so with
   |inst C' as=>
    refine e0_3 hv λer1 hsh hP=> ?_
    clear hv
    obtain rfl:=er1
    refine e3_5 JHL λ_ _ _ hx hd ho hne ha=> ?_
    rename_i d es nn
    refine e0_3 (O.at_ k hk) λhk1 _ hk3=> ?_
    have hz:(putL (ak k) (J9G JC3 (ak k)) (.str (ak k) (t+1)) va es).length<=1000:=by
     have:=(ha.put hk1 z2 (hsh:=J9G JC3 (ak k)) (tk:=t+1)).len
     rw[this]
     have h2:=yz (k:=k) (b:=ea) (l:=as)
     have h3:=J0G hsh
     exact z20 0x1113e83f808402f8181819082 h2 h3
    have hget:(getL (ak k) es).isSome=true:=by
     have L:=JH9 (m:=nn) hk1
     refine (lookIn_dict (ak k) es nn)▸?_
     generalize findA k as=fa at L
     cases fa with
     |some ev=>obtain⟨v,l1,_⟩:=L;rw[l1];rfl
     |none=>have L:JAe _ _=_:=L;rw[L];rfl
    refine av (set_dict (s:=At s h t) (news:=(d,J5c es nn)::J8D λp=>p.1≠d) (dx:=d) JF7 B.KI (uv JH hd) (C:=C') (ox:=J3l C' d) ⟨(JH _ hx).1,rfl,rfl,(JH _ hd).1⟩ rfl O.sa O.over (by unfold takerIn;rw[hk3];rfl) O.hd hget rfl (.head ui) hz λh' F' N''=> ?_)
    refine hQ _ h' (t+2) ?_ hP
    rw[dX]
    have R':=JET (i:=i) (a:=a) (so':=.inst C' (pw k ea as)) (own':=own) (J91 ho (by intro z;cases z)) F' N'' hρ (get_lt' q) ?_ (.inr (J2h hρ q (by intro z;cases z)))
    ·refine e0_3 J4l λ_ _ y=> ?_
     exact⟨_,_,_,_,J1e y⟩
    ·have E':=J91 (N:=N) (own:=own) (d:=d) (o':=J5c (putL (ak k) (J9G JC3 (ak k)) (.str (ak k) (t+1)) va es) (putN (ak k) es nn)) ho (by intro z;cases z)
     exact .inst (b9 hx hne) bD ho hne ((ha.put hk1 z2).mono JBx λ_ _ z=>z)
   |_=>exact J7a
 ·exact J7a
theorem wT {o:Expr}{pos:Pos}{vo:VC EV}{C:Addr}{attrs:List Nat}{k:Nat}{x:Str}(ho:Sem Γ n o vo) (hO:∀w K,KOk w K->jr K C attrs) (hk:k∈attrs) (hx:x=ak k):
  cO Γ n (.Attribute o x pos) (λea st P=>vo st λeo st1=>zE C k eo ea st1 P):=by
 subst hx
 intro w A env X C' st T vs ea va s h t Q E P H hv hQ
 rw[arm_assign_Attribute]
 refine aa (ai (ho C' H hv λeo vo' st1 h1 t1 H1 hv1=>aa (am (aa (ai ?_)))))
 refine Rel.setAttr JAG (hO w _ JGi) hk H1 hv1 λst' h' t' H' hP=> ?_
 exact cJ (hQ st' h' t' H' hP)
theorem pB {tgt e:Expr}{pos:Pos}{va:VC EV}{vt:EV->VC Unit}(ha:Sem Γ n e va) (ht:cO Γ n tgt vt)
  (hs:∀env,J33 [tgt] e J6E env=pure false) (hw:∀env,J20 [tgt] e env=pure none) (hes:∀env,(J1V [tgt] env).map (·.2)=[J5d tgt env]):
  jc Γ n (.Assign [tgt] e pos) (λst P=>va st λa st1=>vt a st1 λy st2=>P .next st2):=by
 intro w A env X C st T vs s h t E P H hv
 rw[JBd,hs]
 refine aa (am (aa (af ?_)))
 refine aa (ha C H hv λea va' st1 h1 t1 H1 hv1=> ?_)
 rw[hw]
 refine aa (af ?_)
 rw[hes]
 show ae (model prog0 w) A (do assignAll va' [J5d tgt env];pure Flow.next) (FlQ w Γ X T vs s P) E (At s h1 t1)
 exact aa (ht C H1 hv1 λst' h' t' H' hP=>af ⟨st',h',t',rfl,H',hP⟩)
end
def GF (C:Addr) (k:Nat) (spec:jb):List EV->VC EV:=λas st P=>J2b=k/\
 qF spec (.loc JK::as) { st with sl:=J5++[.inst C []] } λr st'=>r=.pv .none/\P (.loc JK) st'
theorem AOk.under {A:J7}{X:Fx}{n:Nat}(a:AOk A X (n+1)) {C:Addr}{rest:List Value}{kw:List (Str×Value)}:AOk (J5Y (.builtin "type.__call__" ⟨.ref C::rest,kw⟩)) X n:=by
 obtain⟨A0a,base,outer,fenv,b1,b2,b3,b4⟩:=a.below
 refine⟨⟨A0a,base,outer,fenv,b1,b2,b3,b4⟩,?_,?_,a.hh⟩
 ·have:=a.dep
  rw[JF6];exact z20 0x113843f813b1809993843f818193b0991 this
 ·have:=a.un
  have e:(J5Y (.builtin "type.__call__" ⟨.ref C::rest,kw⟩)).units=J4u+1:=by
   congr 1
  rw[e];exact z30 0x11212c3f81142fb1809999212c3f81819142fb09991 this
theorem aA.mkInst {w:World}{Γ:Nm}{X:Fx}{st:St}{T:List EV}{vs:List Value}{h h':Heap}{N:Led}{own:Own}{ρ:List Addr}{m:Str->Option Value}{C x dx:Addr}(R:aA w Γ X st T vs h N own ρ m)
  (F':Fr X.g X.L h' m) (N':News X.g X.L h' ((x,J3l C dx)::(dx,J22)::N)) (hf:∀p∈N,p.1<dx) (hx:dx<x):
  Rel w Γ X { st with sl:=J5++[.inst C []] } (.loc JK::T) (.ref x::vs) h':=by
 have f1:∀p∈N,p.1≠dx:=λp hp=>J0O (hf p hp)
 have f2:∀p∈(dx,J22)::N,p.1≠x:=λp hp=>by
  rcases Jf hp with rfl|hp
  ·exact J0O hx
  ·exact J0O (JGQ (hf p hp) hx)
 have E1:=(J4C (own:=own) (o:=J22) (l:=.slot JK) f1).trans (J4C (o:=J3l C dx) (l:=.slot JK) f2)
 have R':=JEU (a:=x) (so':=.inst C []) E1 F' N' (.inst (d:=dx) (es:=[]) (n:=0) JB (Jk _ JB) (by rw[fW (J0O hx),br]) (λz=>J0V _ (z▸hx)) .nil) br
 exact⟨_,_,_,_,J1e (.cons (.loc (by rw[JBn,J0D (Jb _)];simp)) J7o)⟩
theorem bC {n:Nat}{C fI:Addr}{k:Nat}{spec:jb}(h:ac n fI (k+1) spec) (hm:∀w K,KOk w K->JDs K C=true) (hi:∀w K,KOk w K->mO K C "__init__" fI):bh (n+1) (.ref C) (GF C k spec):=by
 intro w A Γ X B AO st T vs args ws s hh t Q E P hl H hv hQ
 have KI:=H.keepK B
 refine J9 H λN own ρ m R=> ?_
 have M:=hi w _ JHd
 refine bB (Ag (s:=At s hh t) JF7 JH KI (hm w _ JHd) JGT M.ty λx dx h' F' N' hf hx=> ?_)
 refine e0_2 hv λhk hv=> ?_
 have R2:Rel w Γ X { st with sl:=J5++[.inst C []] } ((.loc JK::args)++(.loc JK::T)) ((.ref x::ws)++(.ref x::vs)) h':=by
  refine J9 (R.mkInst F' N' hf hx) λN own ρ m R=> ?_
  refine e0_2 Jg λz zs=> ?_
  refine e0_2 (J1N hl zs) λq1 q2=> ?_
  exact⟨_,_,_,_,Jj (.cons z (J5q (.cons z q2)))⟩
 refine h B AO.under (by simp [hl]) (by simp [hk]) R2 hv λev v st' h'' t' H' hP=> ?_
 obtain⟨rfl,hP⟩:=hP
 refine e2_1 H'.top1 λfz ρ' z=> ?_
 refine⟨by cases z with |pv z=>cases z;rfl,hQ _ _ st' h'' t' H'.pop hP⟩
def D6:List (Nat×EV)->Option (List (Nat×PV)):=lR (some []) λx y r=>match x with
 |(k,.pv p)=>JGu ((k,p)::·)
 |_=>none
def fzV (ev:EV) (st:St):Option (PV×St):=match ev with
 | .pv p=>some (p,st)
 | .loc i=>(match nth J5 i with
  |some (.list vs)=>some (.lst vs,{ st with sl:=upd J5 i .dead })
  |some (.inst C as)=>(match D6 as with
   |some ps=>some (.inst C ps,{ st with sl:=upd J5 i .dead })
   |none=>none)
  |_=>none)
 | .bad=>none
def vFz (ev:EV):VC EV:=λst P=>match fzV ev st with
 |some (p,st1)=>P (.pv p) st1
 |none=>False
set_option tactic.hygienic true in
theorem zo {fz:FzP}{ρ:List Addr}{as:List (Nat×EV)}{es:List J0g}(h:EVa fz ρ as es):∀{ps:List (Nat×PV)},D6 as=some ps->PRa fz ps es:=by
 induction h with
 |nil=>intro ps q;cases q;exact .nil
 |cons hk hl h _ ih=>
  intro ps q
  rename_i k p e t as es _
  cases p with
  |pv p=>
   obtain⟨l,z,rfl⟩:=Jw q
   exact .cons hk hl (by cases h with |pv h=>exact h) (ih z)
  |_=>cases q
theorem aA.killSlot {w:World}{Γ:Nm}{X:Fx}{st:St}{T:List EV}{vs:List Value}{h:Heap}{N:Led}{own:Own}{ρ:List Addr}{m:Str->Option Value}(H:aA w Γ X st T vs h N own ρ m) {i:Nat}{D:List Addr}(lab:Lab) (hD:∀a∈D,own a=.slot i/\∃o,(a,o)∈N) (hi:i<JK):
  aA w Γ X { st with sl:=JDg i .dead } T vs h N (λb=>if b∈D then lab else own b) ρ m:=by
 have off:∀{b},own b≠.slot i->(if b∈D then lab else own b)=own b:=λhb=>JL λz=>hb (hD _ z).1
 have mz:∀a o,aI JA N own a o->aI JA N (λb=>if b∈D then lab else own b) a o:=by
  rintro a o (q|⟨q1,q2⟩)
  ·exact .inl q
  ·exact .inr ⟨q1,(off (by rw[q2];intro z;cases z)).trans q2⟩
 have hr:∀(i:Nat) (a:Addr),ρ[i]? =some a->ρ[i]? =some a:=λy y h=>h
 refine⟨H.fr,JD4,?_,?_,?_,?_,by simpa using J6r,?_,JHU,J5L mz hr,λp hp=>⟨(J3H p hp).1,(off (by rw[(J3H p hp).2];intro z;cases z)).trans (J3H p hp).2⟩,JD5⟩
 ·intro i x ev h1 h2
  refine e1_2 (JHV i x ev h1 h2) λv q1 q2=> ?_
  exact (az v q1 (J5p mz hr))
 ·intro j c h1
  obtain⟨q1,o,ov,q2,q3,q4⟩:=JHY j c h1
  exact (cD ((off (by rw[q1];intro z;cases z)).trans q1) o ov q2 q3 (λev q=>let ⟨v,z1,z2⟩:=q4 ev q;(az v z1 (J44 mz hr))))
 ·intro c h1
  obtain⟨q1,o,es,ep,q2,q3,q5,q4⟩:=JHX c h1
  exact (bU ((off (by rw[q1];intro z;cases z)).trans q1) o es ep q2 q3 q5 (λi x ev y1 y2=>let ⟨v,z1,z2⟩:=q4 i x ev y1 y2;(az v z1 (J44 mz hr))))
 ·intro j b so h1 h2
  rcases iG h2 with⟨rfl,rfl⟩|⟨hj,h2⟩
  ·exact .inl rfl
  ·rcases JBv j b so h1 h2 with q|q
   ·exact .inl q
   ·exact .inr ((off (by rw[q];intro z;cases z;exact hj rfl)).trans q)
 ·intro j b so h1 h2
  rcases iG h2 with⟨rfl,rfl⟩|⟨hj,h2⟩
  ·exact .dead
  ·by_cases hd:so=.dead
   ·subst hd;exact .dead
   ·exact (JCR j b so h1 h2).mono mz hr (λb o y q=>q) (λb o q1 y=>off (by rw[q1];intro z;cases z;exact hj rfl)) (J3d h1 h2 hd)
set_option tactic.hygienic true in
theorem Rel.freezeSlot {w:World}{Γ:Nm}{X:Fx}{st st1:St}{T:List EV}{vs:List Value}{h:Heap}{ev:EV}{v:Value}{p:PV}(H:Rel w Γ X st (ev::T) (v::vs) h) (hf:fzV ev st=some (p,st1)):Rel w Γ X st1 (.pv p::T) (v::vs) h:=by
 refine J9 H λN own ρ m R=> ?_
 unfold fzV at hf
 clear H
 cases ev with
 |bad=>cases hf
 |pv p'=>cases hf;exact⟨_,_,_,_,R⟩
 |loc i=>
  dsimp only at hf
  rw[aZ] at hf
  cases q:J5[i]? with
  |none=>rw[q] at hf;cases hf
  |some so=>
   replace hf:=(q)▸hf
   refine e0_2 Jg λz zs=> ?_
   refine e1_2 JDW λ_ er0 hρ=> ?_
   refine Jm▸?_
   rename_i a
   have S:=J96 i a so hρ q
   have mzz:∀D:List Addr,(∀a∈D,own a=.slot i/\∃o,(a,o)∈N)->∀a o,aI JA N own a o->aI JA N (λb=>if b∈D then .fz else own b) a o:=by
    rintro D hD a o (q|⟨q1,q2⟩)
    ·exact .inl q
    ·exact .inr ⟨q1,(JL λz=>by have:=(hD _ z).1;rw[q2] at this;cases this).trans q2⟩
   clear er0
   cases so with
   |list us=>
    cases hf
    obtain⟨items,nn,q1,q2⟩:=(JHL)
    have ho:=J2h hρ q (by intro z;cases z)
    have hD:∀b∈[a],own b=.slot i/\∃o,(b,o)∈N:=λb hb=>by obtain rfl:=JQ hb;exact (uE ho _ q1)
    have R':=JCs .fz hD (get_lt' q)
    rw[dX]
    refine e0_2 J7g λ_ y=> ?_
    exact⟨_,_,_,_,J1e (.cons (.pv (.lst (.inr ⟨q1,JC JB⟩) (J2o (mzz _ hD) q2))) y)⟩
   |inst C as=>
    dsimp only at hf
    cases hp:D6 as with
    |none=>rw[hp] at hf;cases hf
    |some ps=>
     replace hf:=(hp)▸hf
     cases hf
     refine e3_5 JHL λ_ _ _ hx hd hod hne ha=> ?_
     rename_i d es nn
     have ho:=J2h hρ q (by intro z;cases z)
     have hD:∀b∈[a,d],own b=.slot i/\∃o,(b,o)∈N:=λb hb=>by
      clear S hne hρ
      rcases Jf hb with rfl|hb
      ·exact (uE ho _ hx)
      ·clear hx
       obtain rfl:=JQ hb;exact (uE hod _ hd)
     have R':=JCs .fz hD (get_lt' q)
     rw[dX]
     refine e0_2 J7g λ_ y=> ?_
     exact⟨_,_,_,_,J1e (.cons (.pv (.inst (.inr ⟨hx,JC JB⟩) (.inr ⟨hd,JC (Jk _ JB)⟩) (PRa.mono (mzz _ hD) (zo ha hp)))) y)⟩
   |_=>cases hf
section
variable {Γ:Nm}{n:Nat}
theorem DY {e:Expr}{va:VC EV}(ha:Sem Γ n e va):Sem Γ n e (λst P=>va st λev st1=>vFz ev st1 P):=by
 intro w A env X C st T vs s h t Q E P H hv hQ
 refine ha C H hv λev v st1 h1 t1 H1 hv1=> ?_
 unfold vFz at hv1
 cases q:fzV ev st1 with
 |none=>rw[q] at hv1;exact hv1.elim
 |some r=>
  obtain⟨p,st2⟩:=r
  rw[q] at hv1
  exact hQ _ v st2 h1 t1 (H1.freezeSlot q) hv1
end
def gX {α β:Type}(f:α->Option β):List α->Option (List β)
 |[]=>some []
 |a::r=>(f a).bind λb=>(gX f r).bind λl=>some (b::l)
theorem wn {α β:Type}{f:α->Option β}{a:α}{r:List α}{l:List β}(h:gX f (a::r)=some l):∃b k,f a=some b/\gX f r=some k/\l=b::k:=by
 refine e1_2 (J1E h) λb h1 h=> ?_
 refine e1_2 (J1E h) λk h2 h=> ?_
 exact (l7 b k h1 h2 ((JT h).symm))
theorem jP {α β γ:Type}{f:α->Option β}{g:γ->α}{k:γ->β}(h:∀c,f (g c)=some (k c)) (l:List γ):gX f (JE g)=some (JE k):=by
 induction l with
 |nil=>rfl
 |cons c l ih=>
  show (f (g c)).bind _=_
  rw[h c]
  show (gX f (JE g)).bind _=_
  rw[ih];rfl
theorem eU {β:Type}{f:PV->Option β}{fz:FzP}{C:List Value->List β->Prop}(h0:C [] []) (h1:∀{p v b vs l},f p=some b->PR fz p v->C vs l->C (v::vs) (b::l)) {ps:List PV}:∀{vs:List Value}{l:List β},PRs fz ps vs->gX f ps=some l->C vs l:=by
 induction ps with
 |nil=>intro vs l h q;cases h;cases q;exact h0
 |cons p ps ih=>
  intro vs l h q
  refine e2_3 J7n λy y er0 a b=> ?_
  refine Jm▸?_
  refine e2_3 (wn q) λy y q1 q2 er1=> ?_
  refine J0y▸?_
  exact h1 q1 a (ih b q2)
abbrev pvL:List EV->Option (List PV):=gX Bx
theorem Ch {fz:FzP}{ρ:List Addr}{es:List EV}:∀{ws:List Value},EVs fz ρ es ws->∀{ps:List PV},pvL es=some ps->PRs fz ps ws:=by
 induction es with
 |nil=>intro ws h ps q;cases h;cases q;exact .nil
 |cons e es ih=>
  intro ws h ps q
  refine e2_3 J7n λy y er0 a b=> ?_
  refine Jm▸?_
  refine e2_3 (wn q) λy y q1 q2 er1=> ?_
  refine J0y▸?_
  clear h q
  cases qO q1
  exact .cons a.pvI (ih b q2)
def GC (as:List EV):VC EV:=λst P=>aj (pvL as) λps=>J2b<=65536/\P (.pv (.tup ps)) st
def GG (as:List EV):VC EV:=λst P=>aj (pvL as) λps=>J2b<=65536/\P (.pv (.lst ps)) st
def Fs (as:List EV):VC EV:=λst P=>aj (pvL as) λps=>J2b<=65536/\P (.loc JK) { st with sl:=J5++[.list ps] }
section
variable {Γ:Nm}{n:Nat}
theorem aA.newLst {w:World}{Γ:Nm}{X:Fx}{st:St}{T:List EV}{vs:List Value}{h:Heap}{N:Led}{own:Own}{ρ:List Addr}{m:Str->Option Value}(R:aA w Γ X st T vs h N own ρ m) {items:Array Value}{k:Nat}{ps:List PV}(hp:PRs (aI JA N own) ps J0P):
  Rel w Γ X { st with sl:=J5++[.list ps] } (.loc JK::T) (.ref JM::vs) (J2R (bG items k)):=by
 have E:=J4C (own:=own) (a:=JM) (o:=bG items k) (l:=.slot JK) (dh JH)
 have R':=JEU (a:=JM) (so':=.list ps) E (R.fr.push _) (R.nw.push JF7 _ rfl) (.list ⟨items,k,JB,J2o (E.fz (F:=JA)) hp⟩) br
 exact⟨_,_,_,_,J1e (.cons (.loc (by rw[JBn,J0D (Jb _)];simp)) J7o)⟩
theorem EF {w:World}{X:Fx}{st:St}{as T:List EV}{ws vs:List Value}{h:Heap}{ps:List PV}(hl:J2b=Jx) (H:Rel w Γ X st (as++T) (ws++vs) h) (q:pvL as=some ps) {G:Prop}(k:∀{N own ρ m},aA w Γ X st T vs h N own ρ m->PRs (aI JA N own) ps ws->G):G:=by
 refine J9 H λN own ρ m R=> ?_
 obtain⟨q1,q2⟩:=J1N hl J62
 exact k (Jj q2) (Ch q1 q)
theorem wJ {es:List Expr}{k:Nat}{pos:Pos}{va:VC (List EV)}(ha:gj Γ n es va):Sem Γ n (.Tuple es k pos) (λst P=>va st λas st1=>GC as st1 P):=by
 intro w A env X C st T vs s h t Q E P H hv hQ
 refine fQ (ha C H hv λas ws st1 h1 t1 hl H1 hv1=> ?_)
 refine e1_3 (ah hv1) λps q hk hv1=> ?_
 exact⟨fit_le (hl▸hk),EF hl H1 q λR z=>hQ _ _ st1 _ t1 (R.newFz0 _ rfl λfz' mz q'=>.tup q' (J2o mz z)) hv1⟩
theorem yG {es:List Expr}{pos:Pos}{va:VC (List EV)}(ha:gj Γ n es va):Sem Γ n (.List es pos) (λst P=>va st λas st1=>GG as st1 P):=by
 intro w A env X C st T vs s h t Q E P H hv hQ
 refine lw (ha C H hv λas ws st1 h1 t1 hl H1 hv1=> ?_)
 refine e1_3 (ah hv1) λps q hk hv1=> ?_
 exact⟨fit_le (hl▸hk),EF hl H1 q λR z=>hQ _ _ st1 _ t1 (R.newFz0 _ rfl λfz' mz q'=>.lst q' (J2o mz z)) hv1⟩
theorem oR {es:List Expr}{pos:Pos}{va:VC (List EV)}(ha:gj Γ n es va):Sem Γ n (.List es pos) (λst P=>va st λas st1=>Fs as st1 P):=by
 intro w A env X C st T vs s h t Q E P H hv hQ
 refine lw (ha C H hv λas ws st1 h1 t1 hl H1 hv1=> ?_)
 refine e1_3 (ah hv1) λps q hk hv1=> ?_
 exact⟨fit_le (hl▸hk),EF hl H1 q λR z=>hQ _ _ _ _ t1 (R.newLst (items:=J7Q) (k:=0) z) hv1⟩
end
def zq:PV->Option Int
 | .int i=>some i
 |_=>none
theorem pL {p:PV}{i:Int}(q:zq p=some i):p=.int i:=by cases p<;>cases q;rfl
abbrev cA:List PV->Option (List Int):=gX zq
def bY:List Int->List Int->Bool
 |[],[]=>true
 |a::r,b::q=>decide (a=b)&&bY r q
 |_,_=>false
theorem cB {a:List Int}:∀{b:List Int},bY a b=true↔a=b:=by
 induction a with
 |nil=>intro b;cases b with
  |nil=>exact⟨λy=>rfl,λy=>rfl⟩
  |cons b q=>exact⟨λh=>(nomatch h),λh=>(nomatch h)⟩
 |cons a r ih=>intro b;cases b with
  |nil=>exact⟨λh=>(nomatch h),λh=>(nomatch h)⟩
  |cons b q=>exact Bool.and_eq_true_iff.trans ((and_congr decide_eq_true_iff ih).trans (Iff.of_eq (List.cons.injEq ..).symm))
def aE (k:List Int):List (List Int×PV)->Option PV:=lR none λp y r=>match p with |(j,p)=>cond (bY j k) (some p) r
theorem dO {k j:List Int}{p:PV}{r:List (List Int×PV)}:aE k ((j,p)::r)=cond (bY j k) (some p) (aE k r):=rfl
structure Ask (p:Prop):Prop where
 out:p
def cU {α:Type}(f:SO->Option α) (e:EV) (st:St):Option α:=match e with
 | .loc i=>(nth J5 i).bind f
 |_=>none
theorem eE {α:Type}{f:SO->Option α}{e:EV}{st:St}{a:α}(h:cU f e st=some a):∃i so,e=.loc i/\J5[i]? =some so/\f so=some a:=by
 cases e with
 |loc i=>
  refine e1_2 (J1E h) λso h1 h2=> ?_
  exact (l7 i so rfl (aZ _ _▸h1) h2)
 |_=>cases h
def oX:EV->Option Nat
 | .loc i=>some i
 |_=>none
theorem iR {e:EV}{i:Nat}(q:oX e=some i):e=.loc i:=by
 cases e with
 |loc j=>exact JD JGg (JT q)
 |_=>cases q
def slB {α:Type}(f:SO->Option α) (i:Nat) (st:St):Option α:=(nth J5 i).bind f
theorem vR {α:Type}{f:SO->Option α}{i:Nat}{st:St}{a:α}(h:slB f i st=some a):∃so,nth J5 i=some so/\f so=some a:=J1E h
theorem df {α:Type}{f:SO->Option α}{i:Nat}{st:St}{so:SO}(h:nth J5 i=some so):cU f (.loc i) st=f so:=by
 show (nth J5 i).bind f=_
 rw[h];rfl
def wF:SO->Option (List (List Int×PV))
 | .tdict es=>some es
 |_=>none
theorem yt {so:SO}{es:List (List Int×PV)}(q:wF so=some es):so=.tdict es:=by cases so<;>cases q;rfl
abbrev wC:=cU wF
def EV.slot:EV->Nat
 | .loc i=>i
 |_=>0
def p1 {α:Type}(p:EV->VC α) (as:List EV):VC α:=λst P=>match as with
 |[a]=>p a st P
 |_=>False
theorem Eg {α:Type}{p:EV->VC α}{as:List EV}{st:St}{P:α->St->Prop}(h:p1 p as st P):∃a,as=[a]/\p a st P:=by
 cases as with
 |nil=>exact JX
 |cons a r=>cases r with
  |nil=>exact (az a rfl h)
  |cons=>exact JX
theorem Aj {α:Type}{l:List α}(h:1=JV):∃a,l=[a]:=List.length_eq_one_iff.mp h.symm
@[elab_as_elim] theorem lt3 {P:Nat->Prop}{k:Nat}(h:k<3) (h0:P 0) (h1:P 1) (h2:P 2):P k:=by
 cases k with
 |zero=>exact h0
 |succ k=>
  cases k with
  |zero=>exact h1
  |succ k=>
   cases k with
   |zero=>exact h2
   |succ k=>exact absurd h (Nat.not_lt_of_le (JEb 3 k))
def p2 {α:Type}(p:EV->EV->VC α) (as:List EV):VC α:=λst P=>match as with
 |[a,b]=>p a b st P
 |_=>False
theorem rT {α:Type}{p:EV->EV->VC α}{as:List EV}{st:St}{P:α->St->Prop}(h:p2 p as st P):∃a b,as=[a,b]/\p a b st P:=by
 cases as with
 |nil=>exact JX
 |cons a r=>cases r with
  |nil=>exact JX
  |cons b r=>cases r with
   |nil=>exact (eJ a b rfl h)
   |cons=>exact JX
theorem xt {α:Type}{l:List α}(h:2=JV):∃a b,l=[a,b]:=by
 cases l with
 |nil=>cases h
 |cons a l=>exact e1_1 (Aj (J3b h)) λb e=>⟨a,b,e▸rfl⟩
def sh (e:EV):Option (List Int):=(i8 e).bind cA
def pN (eo ei:EV):VC EV:=λst P=>bj (bF eo st) (λps=>aj (bA ei) λk=>(0<=k/\k<65536)/\aj (nth ps J2i) λp=>P (.pv p) st)
 (bj (i8 eo) (λps=>aj (bA ei) λk=>(0<=k/\k<65536)/\aj (nth ps J2i) λp=>P (.pv p) st)
 (bj (eT eo) (λx=>aj (bA ei) λk=>(0<=k/\k<65536)/\aj JGk[J2i]? λc=>P (.pv (.str ⟨#[c]⟩)) st)
 (bj (cG eo) (λb=>aj (bA ei) λk=>(0<=k/\k<J2/\J2<=65536)/\P (.pv (.int (J9b J2i 0).toNat)) st)
 (aj (wC eo st) λes=>aj (sh ei) λks=>aj (aE ks es) λp=>P (.pv p) st))))
theorem iT {w:World}{fz:FzP}{ps:List PV}{vs:List Value}{ks:List Int}(h:PRs fz ps vs) (q:cA ps=some ks):ItemsAre (IK w) ks vs:=
 eU (C:=λvs ks=>ItemsAre (IK w) ks vs) .nil (λq a c=>by
  cases pL q
  obtain⟨t,rfl⟩:=a.inv
  exact .cons (J0p _) c) h q
theorem bN {ks:List Int}:cA (J8V .int)=some ks:=(jP (f:=zq) (g:=J3G) (k:=id) (λy=>rfl) ks).trans (JD some (JBs _))
theorem PRi {fz:FzP}{ps:List PV}{vs:List Value}{ks:List Int}(h:PRs fz ps vs) (q:cA ps=some ks):PRs fz (J8V .int) vs:=
 eU (C:=λvs ks=>PRs fz (J8V .int) vs) .nil (λq a c=>by cases pL q;exact .cons a c) h q
theorem DQ {w:World}{fz:FzP}{h:Heap}(hz:∀a o,fz a o->JN a=some o) {ps:List PV}{v:Value}{ks:List Int}(H:PR fz (.tup ps) v) (q:cA ps=some ks):∃a,v=.ref a/\(TK w).is h ks a:=by
 refine e3_3 H.inv λy y y er0 f hi=> ?_
 clear H
 obtain rfl:=er0
 exact (jE _ rfl _ _ _ (hz _ _ f) rfl ⟨rfl,iT hi q⟩)
theorem la {w:World}{fz:FzP}{h:Heap}{ρ:List Addr}(hz:∀a o,fz a o->JN a=some o) {e:EV}{v:Value}{ks:List Int}(q:sh e=some ks) (H:EVR fz ρ e v):∃a,v=.ref a/\(TK w).is h ks a/\PR fz (.tup (J8V .int)) (.ref a):=by
 refine e1_2 (J1E q) λps q1 q2=> ?_
 clear q
 cases qN q1
 refine e3_3 H.pvI.inv λa items n er0 f hi=> ?_
 clear H q1
 obtain rfl:=er0
 exact (i_eaa a rfl (f4 _ _ _ (hz _ _ f) rfl rfl (iT hi q2)) (.tup f (PRi hi q2)))
theorem TEs.is {w:World}{fz:FzP}{h:Heap}(hz:∀a o,fz a o->JN a=some o) {es:List (List Int×PV)}{xs:List (List Int×Addr×Value)}(H:TEs fz es xs):(∀x∈xs,(TK w).is h x.1 x.2.1)/\J8G (·.1)=J4w (·.1):=by
 induction H with
 |nil=>exact⟨λy h=>(nomatch h),rfl⟩
 |cons hp h _ ih=>
  refine⟨λx hx=> ?_,JD (_::·) ih.2⟩
  rcases Jf hx with rfl|hx
  ·refine e1_2 (DQ (w:=w) hz hp bN) λa e z=> ?_
   cases e;exact z
  ·exact ih.1 x hx
set_option tactic.hygienic true in
theorem TEs.find {fz:FzP}{es:List (List Int×PV)}{xs:List (List Int×Addr×Value)}(H:TEs fz es xs) {k:List Int}:match aE k es with
  |some p=>∃a v,atKey xs k=some (a,v)/\PR fz p v
  |none=>atKey xs k=none:=by
 induction H with
 |nil=>rfl
 |cons hp h _ ih=>
  rename_i j p b v es xs _
  rw[dO]
  unfold atKey
  cases q:bY j k with
  |true=>exact (eJ b v (by rw[J43 (by simp [JFd q])];rfl) h)
  |false=>
   have:¬j=k:=λz=>by rw[JEG z] at q;cases q
   rw[J2l (by simp [this])]
   exact ih
theorem TEs.hit {fz:FzP}{es:List (List Int×PV)}{xs:List (List Int×Addr×Value)}(H:TEs fz es xs) {k:List Int}{p:PV}(q:aE k es=some p):∃a v,atKey xs k=some (a,v)/\PR fz p v:=by
 have:=H.find (k:=k)
 rw[q] at this;exact this
theorem TEs.miss {fz:FzP}{es:List (List Int×PV)}{xs:List (List Int×Addr×Value)}(H:TEs fz es xs) {k:List Int}(q:aE k es=none):atKey xs k=none:=by
 have:=H.find (k:=k)
 rw[q] at this;exact this
def BB (slice:Expr):Prop:=∀o i,∃ops,J6Z slice false o i=operate ops (JBc o i)
inductive G3 (w:World) (X:Fx) (st:St) (h:Heap) (N:Led) (own:Own) (ρ:List Addr) (e:EV) (v:Value) (es:List (List Int×PV)):Prop
 |mk (i:Nat) (a:Addr) (xs:List (List Int×Addr×Value)) (o:Obj) (he:e=.loc i) (hv:v=.ref a) (hρ:ρ[i]? =some a) (q:J5[i]? =some (.tdict es)) (D:h.DictOfH (TK w) a xs) (ht:TEs (aI JA N own) es xs) (lo:(a==J2I)=false) (hm:(a,o)∈N) (hn:(J4w (·.1)).Nodup) (hl:J4b=J1H)
theorem aA.td {w:World}{Γ:Nm}{X:Fx}{st:St}{T:List EV}{vs:List Value}{h:Heap}{N:Led}{own:Own}{ρ:List Addr}{m:Str->Option Value}(B:BOk w X) (R:aA w Γ X st T vs h N own ρ m) {e:EV}{v:Value}{es:List (List Int×PV)}(q:wC e st=some es) (he:EVR (aI JA N own) ρ e v):G3 w X st h N own ρ e v es:=by
 refine e2_3 (eE q) λi so er0 q1 q2=> ?_
 obtain rfl:=er0
 cases yt q2
 refine e1_2 JAj λa er1 hρ=> ?_
 refine J0y▸?_
 refine e4_7 ((J96 _ _ _ hρ q1).inv) λo y y xs h1 lo hx hd he hn ht=> ?_
 have I:=ht.is (w:=w) λa o q=>J29 B q
 exact⟨i,a,xs,o,rfl,rfl,hρ,q1,(dj _ _ _ ((JH _ h1).1) hx hd he I.1 (I.2▸hn)),ht,lo,h1,hn,(J6 _).symm.trans ((JD J4p I.2).trans (J6 _))⟩
section
variable {Γ:Nm}{n:Nat}
theorem j1 {k:Int}{l:Nat}(h0:0<=k) (h1:J2i<l):seqIndex? k l=some J2i:=by
 have h2:k<(l:Int):=(Int.toNat_lt h0).mp h1
 unfold seqIndex?
 rw[JL (J6X h0)]
 exact JC (J3f ⟨Jq h0,Jq h2⟩)
theorem nR {w:World}{A:J7}{value slice:Expr}(hs:BB slice) {a:Addr}{items:Array Value}{nn:Nat}{k:Int}{u:Tok}{v:Value}{s:J1}{Q E:Value->J1->Prop}(hg:Jr a=some (bG items nn)) (h0:0<=k) (h1:k<65536) (hx:J0P[J2i]? =some v) (hQ:Q v s):
  ae (model prog0 w) A (J3i value slice (.ref a) (.int k u)) Q E s:=by
 have hl:J4W a items:=(aO _ hg rfl _ rfl)
 obtain⟨ops,ho⟩:=hs (.ref a) (.int k u)
 exact cy hl.typeIs J2B (av (wpAny_getItem_list hl h0 (Int.lt_trans h1 (by decide)) (by simpa using hx) hQ)) ho
def Fw (eo ei:EV):VC EV:=λst P=>Ask (pN eo ei st P)
theorem BY {value slice:Expr}{pos:Pos}{vo vi:VC EV}(hs:BB slice) (ho:Sem Γ n value vo) (hi:Sem Γ n slice vi):Sem Γ n (.Subscript value slice pos) (λst P=>vo st λa st1=>vi st1 λb st2=>Fw a b st2 P):=by
 intro w A env X C st T vs s h t Q E P H hv hQ
 refine ee (ho C H hv λeo v st1 h1 t1 H1 hv1=>hi C H1 hv1 λei u st2 h2 t2 H2 hv2=> ?_)
 have B:=J1q
 have AO:=J54
 clear hv1 H1 hv H ho hi C
 refine J9 H2 λN own ρ m R=> ?_
 refine e0_3 J14 λz z2 zs=> ?_
 have K:∀{p v' t'},PR (aI JA N own) p v'->P (.pv p) st2->Q v' (At s h2 t'):=λy hp=>hQ _ _ st2 h2 _ ⟨_,_,_,_,Jj (.cons (.pv y) zs)⟩ hp
 clear hQ
 clear H2
 rcases aX hv2.out with hv2|hv2
 ·refine e1_2 (ah hv2) λps q hv2=> ?_
  refine e1_3 (ah hv2) λk q2 hk hv2=> ?_
  refine e1_2 (ah hv2) λp q3 hv2=> ?_
  refine e3_3 (J2j B z2 q) λa items n er0 g hi=> ?_
  refine Jm▸?_
  refine e1_1 (bz q2 z) λtk er1=> ?_
  refine J0y▸?_
  refine e1_2 (hi.get (aZ _ _▸q3)) λv y1 y2=> ?_
  exact nR (s:=At s h2 t2) hs g hk.1 hk.2 y1 (K y2 hv2)
 refine e1_1 (hs v u) λops hops=> ?_
 rcases aX hv2 with hv2|hv2
 ·refine e1_2 (ah hv2) λps q hv2=> ?_
  refine e1_3 (ah hv2) λk q2 hk hv2=> ?_
  refine e1_2 (ah hv2) λp q3 hv2=> ?_
  refine e3_3 (gK q z2) λa items nn er2 f hi=> ?_
  clear q z2
  obtain rfl:=er2
  refine e1_1 (bz q2 z) λtk er3=> ?_
  clear z
  obtain rfl:=er3
  refine e1_2 (hi.get (aZ _ _▸q3)) λv y1 y2=> ?_
  have hT:IsTup h2 a items:=(aO _ (J29 B f) rfl _ rfl)
  exact cy (s:=At s h2 t2) (JGY hT) J79 (av (PyProof.Rows.getItem_tuple (s:=At s h2 t2) hT (by omega) (by omega) (j1 hk.1 (get_lt' y1)) (by simpa using y1) (K y2 hv2))) hops
 rcases aX hv2 with hv2|hv2
 ·refine e1_2 (ah hv2) λx q hv2=> ?_
  refine e1_3 (ah hv2) λk q2 hk hv2=> ?_
  refine e1_2 (ah hv2) λc q3 hv2=> ?_
  refine e1_1 (dt q z2) λtx er4=> ?_
  clear R
  obtain rfl:=er4
  refine e1_1 (bz q2 z) λtk er5=> ?_
  obtain rfl:=er5
  exact cy (s:=At s h2 t2) (typeIs_str _ x tx) PySem.F.slot_str_getitem.lookup (av (PySem.P.getItem_str (by simp;omega) (by rw[j1 hk.1 (show J2i<J3g from (J87 q3).1)];exact q3) (K (.str _ _) hv2))) hops
 rcases aX hv2 with hv2|hv2
 ·refine e1_2 (ah hv2) λb q hv2=> ?_
  refine e1_3 (ah hv2) λk q2 en6 hv2=> ?_
  refine e0_3 en6 λc1 c2 c3=> ?_
  clear en6
  refine e1_1 (bW q z2) λtx er7=> ?_
  obtain rfl:=er7
  refine e1_1 (bz q2 z) λtk er8=> ?_
  obtain rfl:=er8
  exact cy (s:=At s h2 t2) (J1u _ J60 tx) J8F (av (getItem_bytes (JJ c3 (by decide)) c1 c2 (K (.int _ _) hv2))) hops
 refine e1_2 (ah hv2) λes q hv2=> ?_
 refine e1_2 (ah hv2) λks q2 hv2=> ?_
 refine e1_2 (ah hv2) λp q3 hP=> ?_
 clear hv2
 clear hv2
 obtain⟨i,a,xs,o,rfl,rfl,hρ,_,D,ht,_,_,_,_⟩:=R.td B q z2
 refine e1_3 (la (w:=w) (λa o q=>J29 B q) q2 z) λka er9 hk j=> ?_
 obtain rfl:=er9
 refine e2_2 (ht.hit q3) λb v f1 f2=> ?_
 exact cy (s:=At s h2 t2) (Heap.DictOfH.typeIs D) J7O (av (wpAny_getItem_heap (s:=At s h2 t2) (p:=(b,v)) (J92 (k:=1)) hk D f1 (K f2 hP))) hops
end
def cut {α:Type}(l:List α) (lo hi:Option Int):List α:=(l.drop (lo.elim 0 (J5H JV))).take (hi.elim JV (J5H JV) - lo.elim 0 (J5H JV))
def zB (eo:EV) (lo hi:Option Int):VC EV:=λst P=>
 bj (cG eo) (λb=>J2<=65536/\P (.pv (.bytes (cut b lo hi))) st)
 (bj (i8 eo) (λps=>(lo=some 1/\hi=none/\1<=Jt/\Jt<=65536)/\P (.pv (.tup (ps.drop 1))) st)
 (aj (bF eo st) λps=>Jt<=65536/\P (.pv (.lst (cut ps lo hi))) st))
def s7 (Γ:Nm) (n:Nat) (e:Option Expr) (vc:VC (Option Int)):Prop:=
 ∀{{w:World}} {{A:J7}} {{env:Env}} {{X:Fx}},Cx w A env Γ X n->∀{{st:St}} {{T:List EV}} {{vs:List Value}} {{s:J1}} {{h:Heap}} {{t:Nat}} {{Q:Value->J1->Prop}} {{E:Value->J1->Prop}} {{P:Option Int->St->Prop}},
  Rel w Γ X st T vs h->vc st P->(∀k v st' h' t',IsPart v k->Rel w Γ X st' T vs h'->P k st'->Q v (At s h' t'))->ae (model prog0 w) A (JCG e env) Q E (At s h t)
theorem PRs.drop {fz:FzP}{ps:List PV}:∀{vs:List Value}(k:Nat),PRs fz ps vs->PRs fz (ps.drop k) (vs.drop k):=by
 induction ps with
 |nil=>intro vs k h;cases h;rw[JFn,JFn];exact .nil
 |cons p ps ih=>
  intro vs k h
  refine e2_3 J7n λv r er a b=> ?_
  cases k with
  |zero=>exact h
  |succ k=>exact JHF▸ih k b
theorem PRs.take {fz:FzP}{ps:List PV}:∀{vs:List Value}(k:Nat),PRs fz ps vs->PRs fz (J9q k) (vs.take k):=by
 induction ps with
 |nil=>intro vs k h;cases h;rw[JFm,JFm];exact .nil
 |cons p ps ih=>
  intro vs k h
  refine e2_3 J7n λv r er a b=> ?_
  cases k with
  |zero=>exact .nil
  |succ k=>exact JHF▸.cons a (ih k b)
theorem PRs.cut {fz:FzP}{ps:List PV}{vs:List Value}(h:PRs fz ps vs) (lo hi:Option Int):PRs fz (cut ps lo hi) (cut vs lo hi):=by
 unfold Internal.cut
 rw[JFS]
 exact (h.drop _).take _
theorem ny (items:Array Value) (lo hi:Option Int):(slicePick items lo hi none).toList=cut J0P lo hi:=by
 rw[slicePick_plain]
 unfold cut
 simp
section
variable {Γ:Nm}{n:Nat}
theorem tW:s7 Γ n none (λst P=>P none st):=by
 intro w A env X C st T vs s h t Q E P H hv hQ
 rw[JFW]
 exact af (hQ none _ st h t .none H hv)
def Dm (e:EV) (P:Option Int->St->Prop) (st:St):Prop:=aj (bA e) λk=>P (some k) st
set_option tactic.hygienic true in
theorem tV {e:Expr}{ve:VC EV}(he:Sem Γ n e ve):s7 Γ n (some e) (λst P=>ve st (λa st1=>Dm a P st1)):=by
 intro w A env X C st T vs s h t Q E P H hv hQ
 rw[JFV]
 refine he C H hv λev v st1 h1 t1 H1 hv1=> ?_
 refine e2_1 JBu λfz ρ z=> ?_
 unfold Dm at hv1
 refine e1_2 (ah hv1) λk q hv1=> ?_
 refine e1_1 (bz q z) λtk er0=> ?_
 refine Jm▸?_
 exact hQ (some k) _ st1 h1 t1 (.int k tk) JEh hv1
set_option tactic.hygienic true in
theorem wK {value:Expr}{lo hi:Option Expr}{p pos:Pos}{vo:VC EV}{vl vu:VC (Option Int)}(ho:Sem Γ n value vo) (hl:s7 Γ n lo vl) (hu:s7 Γ n hi vu):
  Sem Γ n (.Subscript value (.Slice lo hi none p) pos) (λst P=>vo st λa st1=>vl st1 λk st2=>vu st2 λl st3=>zB a k l st3 P):=by
 intro w A env X C st T vs s h t Q E P H hv hQ
 refine ee (ho C H hv λeo v st1 h1 t1 H1 hv1=>jZ (hl C H1 hv1 λk vl st2 h2 t2 pl H2 hv2=>hu C H2 hv2 λl vu st3 h3 t3 pu H3 hv3=> ?_))
 refine af ?_
 have H4:Rel w Γ X st3 (eo::T) (v::vs) (JE3 { cls:=.type "slice",data:=.fields #[vl,vu,.none] }):=H3.keeps λb o e=>JY _ e
 have hops:∀o i,∃ops,J6Z (.Slice lo hi none p) false o i=operate ops (JBc o i):=λo i=>⟨_,rfl⟩
 have hS:(JE3 { cls:=.type "slice",data:=.fields #[vl,vu,.none] }).IsSliceOf JAk vl vu .none:=JCP _ _ _ _
 show ae (model prog0 w) A (J3i value _ v (.ref JAk)) Q E (At s (JE3 { cls:=.type "slice",data:=.fields #[vl,vu,.none] }) t3)
 generalize JE3 { cls:=.type "slice",data:=.fields #[vl,vu,.none] }=h4 at H4 hS
 generalize JAk=sa at hS
 refine e1_1 (hops v (.ref sa)) λops hop=> ?_
 refine J9 H4 λN own ρ m R=> ?_
 clear H1 H2 H3 H4 hv1 hv2
 cases J62 with
 |cons z zs=>
  have asList:∀{ps},bF eo st3=some ps->Jt<=65536->P (.pv (.lst (cut ps k l))) st3->ae (model prog0 w) A (J3i value (.Slice lo hi none p) v (.ref sa)) Q E (At s h4 t3):=by
   intro ps q hsz hP
   refine e3_3 (J2j J1q z q) λa items nn er0 g1 g2=> ?_
   have hL:h4.IsList a items:=(aO _ g1 rfl _ rfl)
   obtain rfl:=er0
   have hle:=J72
   simp only [J0L] at hle
   refine cy (s:=At s h4 t3) hL.typeIs J2B (av (J9Q (s:=At s h4 t3) hL hS pl pu .none (by intro z;cases z) ?_ (fit_le (by rw[<- hle];exact hsz)))) hop
   exact hQ _ _ st3 _ t3 ((Jj zs).newFz0 _ rfl λfz' mz q'=>.lst q' (by rw[ny];exact (J2o mz g2).cut k l)) hP
  unfold zB at hv3
  rcases aX hv3 with hv3|hv3
  ·refine e1_2 (ah hv3) λb q hv3=> ?_
   clear asList
   refine e1_1 (bW q z) λtk er0=> ?_
   clear z q
   obtain rfl:=er0
   have hb:b.toArray.size=J2:=rfl
   refine cy (s:=At s h4 t3) (J1u _ _ _) J8F (av (getItem_meets (J1u _ _ _) (by decide) FB.slot_bytes_getitem FB.entry_bytes_getitem (FB.args_bytes_getitem_2 _ _) (KBc.meets_slice2 J60 tk _ pl pu)
    (i_aa hS (JJ (KBc.size_picked_le J60 k l) (fit_le (by rw[hb];exact hv3.1))) (λt' kk=>hQ _ _ st3 h4 kk ⟨N,own,ρ,m,Jj (.cons (.pv (.bytes ?_ t')) zs)⟩ hv3.2)))) hop
   rw[KBc.picked_eq]
   unfold cut
   simp
  rcases aX hv3 with hv3|hv3
  ·refine e1_2 (ah hv3) λps q hv4=> ?_
   clear asList hv3
   obtain⟨⟨rfl,rfl,h1,h5⟩,hv5⟩:=hv4
   refine e3_3 (gK q z) λa items nn er0 f hi=> ?_
   clear z q
   obtain rfl:=er0
   cases pl with
   |int _ tk=>
    cases pu with
    |none=>
      have hle:=JAi
      simp only [J0L] at hle
      have hT:IsTup h4 a items:=(aO _ (J29 J1q f) rfl _ rfl)
      refine cy (s:=At s h4 t3) (JGY hT) J79 (av (getItem_tuple_from (s:=At s h4 t3) (a:=1) (u:=tk) hT hS (Jb _) (by exact z20 0x1011018801a11882 h1 hle) ?_ (fit_le (by rw[<- hle];exact h5)))) hop
      exact hQ _ _ st3 _ t3 ((Jj zs).newFz0 _ rfl λfz' mz q'=>.tup q' (by simpa using (J2o mz hi).drop 1)) hv5
  refine e1_2 (ah hv3) λps q hv3=> ?_
  exact asList q hv3.1 hv3.2
end
def DW:SO->Option J23
 | .list _=>some "list"
 | .elist _=>some "list"
 | .sdict _=>some "dict"
 | .tdict _=>some "dict"
 | .ba _=>some "bytearray"
 |_=>none
def BP (e:EV) (st:St):Option J23:=match e with
 | .pv (.str _)=>some "str"
 | .pv (.bytes _)=>some "bytes"
 | .pv (.lst _)=>some "list"
 | .pv (.tup _)=>some "tuple"
 | .loc i=>(nth J5 i).bind DW
 |_=>none
section
variable {w:World}{Γ:Nm}{X:Fx}{st:St}{T:List EV}{vs:List Value}{h h':Heap}{N:Led}{own:Own}{ρ:List Addr}{m:Str->Option Value}
theorem aA.tyIs (B:BOk w X) (R:aA w Γ X st T vs h N own ρ m) {e:EV}{v:Value}{Ty:J23}(he:EVR (aI JA N own) ρ e v) (ht:BP e st=some Ty) {s:J1}{t:Nat}:
  (At s h t).TypeIs v Ty/\∀a,v=.ref a->∃o,JN a=some o/\o.dict=none:=by
 have fin:∀{a:Addr}{o:Obj}{T:J23},JN a=some o->J9B=.type T->o.dict=none->some T=some Ty->(At s h t).TypeIs (.ref a) Ty/\∀b,J4G a=.ref b->∃o,JN b=some o/\o.dict=none:=λhm hc hd e=>
  ⟨(az _ hm (JT e▸hc)),λb e=>by cases e;exact (az _ hm hd)⟩
 cases e with
 |bad=>cases ht
 |pv p=>
  have q:=JCj
  clear he
  cases p with
  |str x=>obtain⟨tk,rfl⟩:=q;cases ht;exact⟨typeIs_str _ x tk,λa e=>by cases e⟩
  |bytes b=>obtain⟨a,tk,rfl,_⟩:=q;cases ht;exact⟨J1u _ _ tk,λa e=>by cases e⟩
  |lst ps=>obtain⟨a,_,_,rfl,f,_⟩:=q;exact fin (J29 B f) rfl rfl ht
  |tup ps=>obtain⟨a,_,_,rfl,f,_⟩:=q;exact fin (J29 B f) rfl rfl ht
  |_=>cases ht
 |loc i=>
  refine e1_2 JAj λa er0 hρ=> ?_
  refine Jm▸?_
  refine e1_2 (J1E ht) λso q ht=> ?_
  have S:=(J96 i a so hρ (aZ _ _▸q)).inv
  clear he q
  cases so with
  |list ps=>obtain⟨items,n,q1,q2⟩:=S;exact fin (JH _ q1).1 rfl rfl ht
  |elist es=>obtain⟨_,_,q1,_⟩:=S;exact fin (JH _ q1).1 rfl rfl ht
  |sdict as=>obtain⟨_,_,_,_,q1,_,hx,_⟩:=S;exact fin (JH _ q1).1 hx.1 hx.2.1 ht
  |tdict as=>obtain⟨_,_,_,_,q1,_,hx,_⟩:=S;exact fin (JH _ q1).1 hx.1 hx.2.1 ht
  |ba b=>obtain⟨_,q1,_⟩:=S;exact fin (JH _ q1).1 rfl rfl ht
  |_=>cases ht
theorem aA.setObj (R:aA w Γ X st T vs h N own ρ m) {i:Nat}{a:Addr}{so so':SO}{o o':Obj}(hρ:ρ[i]? =some a) (q:J5[i]? =some so) (hd:so≠.dead) (hm:(a,o)∈N) (hs:J0m a h h') (ho:JW a=some o')
  (hS:(∀b ob,aI JA N own b ob->aI JA (put N a o') own b ob)->SOR w (put N a o') own (aI JA (put N a o') own) ρ i a so'):aA w Γ X { st with sl:=upd J5 i so' } T vs h' (put N a o') own ρ m:=by
 have hown:=J2h hρ q hd
 have E':=J91 (N:=N) (own:=own) (d:=a) (o':=o') hown (by intro z;cases z)
 obtain⟨F',W'⟩:=R.same hm hs ho
 rw[dX]
 exact JET (own':=own) E' F' W' hρ (get_lt' q) (hS JBx) (.inr hown)
theorem aA.setList (R:aA w Γ X st T vs h N own ρ m) {i:Nat}{a:Addr}{so:SO}{ps:List PV}{o:Obj}{items:Array Value}{k:Nat}(hρ:ρ[i]? =some a) (q:J5[i]? =some so) (hd:so≠.dead) (hm:(a,o)∈N) (hs:J0m a h h') (ho:JW a=some (bG items k)) (hp:PRs (aI JA N own) ps J0P):
  aA w Γ X { st with sl:=upd J5 i (.list ps) } T vs h' (put N a (bG items k)) own ρ m:=
 JA3 hρ q hd hm hs ho λmz=>.list ⟨items,k,bD,J2o mz hp⟩
end
abbrev BX:=cU pq
inductive G7 (X:Fx) (st:St) (h:Heap) (N:Led) (own:Own) (ρ:List Addr) (e:EV) (v:Value) (ps:List PV):Prop
 |mk (i:Nat) (a:Addr) (items:Array Value) (k:Nat) (he:e=.loc i) (hv:v=.ref a) (hρ:ρ[i]? =some a) (q:J5[i]? =some (.list ps)) (hm:(a,bG items k)∈N) (hg:JN a=some (bG items k)) (hi:PRs (aI JA N own) ps J0P) (hl:Jt=J12)
theorem aA.ls {w:World}{Γ:Nm}{X:Fx}{st:St}{T:List EV}{vs:List Value}{h:Heap}{N:Led}{own:Own}{ρ:List Addr}{m:Str->Option Value}(R:aA w Γ X st T vs h N own ρ m) {e:EV}{v:Value}{ps:List PV}(q:BX e st=some ps) (he:EVR (aI JA N own) ρ e v):G7 X st h N own ρ e v ps:=by
 refine e2_3 (eE q) λi so er0 q1 q2=> ?_
 clear q
 obtain rfl:=er0
 cases yv q2
 refine e1_2 JAj λa er1 hρ=> ?_
 clear he q2
 obtain rfl:=er1
 obtain⟨items,k,g,hi⟩:=(J96 i a _ hρ q1).inv
 exact⟨i,a,items,k,rfl,rfl,hρ,q1,g,(JH _ g).1,hi,JAi⟩
theorem aA.listSlot {w:World}{Γ:Nm}{X:Fx}{st:St}{T:List EV}{vs:List Value}{h:Heap}{N:Led}{own:Own}{ρ:List Addr}{m:Str->Option Value}(R:aA w Γ X st T vs h N own ρ m) {i:Nat}{a:Addr}{ps:List PV}(hρ:ρ[i]? =some a) (q:J5[i]? =some (.list ps)):
  ∃items k,(a,bG items k)∈N/\JN a=some (bG items k)/\PRs (aI JA N own) ps J0P/\Jt=J12:=by
 obtain⟨items,k,g,hi⟩:=(J96 i a _ hρ q).inv
 exact (dL items k g ((JH _ g).1) hi JAi)
section
variable {Γ:Nm}{n:Nat}
theorem oT {o:Expr}{Ty:J23}{name:Str}{id:J23}{apos pos:Pos}{args:List Expr}{vo:VC EV}{va:VC (List EV)}{prim:List EV->VC EV}(pa:JCw Ty) (slot:Slot Ty name id) (hty:JDb (.builtin id)=pure (.type "method_descriptor"))
  (ho:Sem Γ n o vo) (hc:bh n (.builtin id) prim) (ha:gj Γ n args va) (hs:bX args) (pl:Env->J1M Bool)
  (he:∀env,eval (.Call (.Attribute o name apos) args [] pos) env=(do
   let ov <- eval o env
   standAt J8g
   let (f,first) <- holding [ov] (getMethod ov name (pl env))
   J2C pos f first (J00 pos (Je args env)) (J4Y pos (J2V [] env)))):
  Sem Γ n (.Call (.Attribute o name apos) args [] pos) (λst P=>vo st λa st1=>BP a st1=some Ty/\va st1 λas st2=>prim (a::as) st2 P):=by
 intro w A env X C' st T vs s h t Q E P H hv hQ
 refine dq (pl:=pl env) (ho C' H hv λev v st1 h1 t1 H1 hv1=> ?_) (he env)
 refine e0_2 hv1 λi1 hv1=> ?_
 refine J9 (H1) λN own ρ m R=> ?_
 refine e0_2 Jg λz zs=> ?_
 refine e0_2 (R.tyIs JAG z i1 (s:=s) (t:=t1)) λq1 q2=> ?_
 exact av (JCl (s:=At s h1 t1) q1 pa slot hty q2 (iq C' hc ha hs (.inr (.inl ⟨id,rfl⟩)) (first:=[ev]) (firstv:=[v]) rfl H1 hv1 hQ))
end
def zN (a b:EV):VC EV:=λst P=>aj (BX a st) λps=>aj (Bx b) λp=>Jt<65536/\P (.pv .none) { st with sl:=upd J5 JEN (.list (ps++[p])) }
def vS:=p2 zN
theorem kf {n:Nat}:bh n (.builtin "list.append") vS:=by
 intro w A Γ X B AO st T vs args ws s h t Q E P hl H hv hQ
 refine e2_2 (rT hv) λea eb er0 hv=> ?_
 obtain rfl:=er0
 refine e2_1 (xt hl) λva vb er1=> ?_
 clear hl
 obtain rfl:=er1
 refine e1_2 (ah hv) λps q hv=> ?_
 refine e1_3 (ah hv) λp q2 hk hP=> ?_
 clear hv
 clear hv
 cases qO q2
 refine J9 H λN own ρ m R=> ?_
 refine e0_3 J14 λz1 z2 zs=> ?_
 clear H
 obtain⟨i,a,items,k,rfl,rfl,hρ,q',q1,q2,q3,q4⟩:=R.ls q z1
 refine av (JEL (s:=At s h t) q2 (λh' hs ho=> ?_) (fit_le (q4▸J2y hk)))
 have R':=JAt (ps:=ps++[p]) hρ q' (by intro z;cases z) q1 hs ho (by rw[J7j];exact J8N (.cons z2.pvI .nil))
 exact hQ _ _ _ h' t ⟨_,_,_,_,J1e (.cons (.pv .none) J4l.2.2)⟩ hP
def zJ (a b:EV):VC EV:=λst P=>aj (BX a st) λps=>aj (bF b st) λqs=>Jt+JAa<=65536/\P (.pv .none) { st with sl:=upd J5 JEN (.list (ps++qs)) }
def Cp:=p2 zJ
theorem sT {n:Nat}:bh n (.builtin "list.extend") Cp:=by
 intro w A Γ X B AO st T vs args ws s h t Q E P hl H hv hQ
 refine e2_2 (rT hv) λea eb er0 hv=> ?_
 obtain rfl:=er0
 refine e2_1 (xt hl) λva vb er1=> ?_
 clear hl
 obtain rfl:=er1
 refine e1_2 (ah hv) λps q hv=> ?_
 refine e1_3 (ah hv) λqs qe hk hP=> ?_
 clear hv
 refine J9 H λN own ρ m R=> ?_
 refine e0_3 J14 λz1 z2 zs=> ?_
 refine e3_3 (J2j B z2 qe) λb items2 k2 er2 g1 g2=> ?_
 refine J3P▸?_
 clear H hv
 obtain⟨i,a,items,k,rfl,rfl,hρ,q',q1,q2,q3,q4⟩:=R.ls q z1
 have l2:JAa=JH3:=J72
 rw[q4,l2] at hk
 have hfit:=fit_le hk
 refine av (JCo (s:=At s h t) J9g (az _ q2 rfl) J9F (J97 _ _)
  (J7P a items k b items2 k2 (by unfold J9l;intro z;have:=(J07 z).2;rw[J1v] at this;exact z30 0x11610929210982 hfit this) (JJ (J2f _ _) hfit) (J39 hfit)) (i_aa q2 g1 ?_))
 have R':=JAt (ps:=ps++qs) (h':=JFR a (J2N λx=>x++items2)) hρ q' (by intro z;cases z) q1 (J0f ..) (JD0 (show IsL h a items k from q2) λx=>x++items2) (by rw[J2Y];exact J8N g2)
 exact hQ _ _ _ _ t ⟨_,_,_,_,J1e (.cons (.pv .none) J4l.2.2)⟩ hP
def Fo (a:EV):VC EV:=λst P=>aj (BX a st) λps=>aj JBY λp=>Jt<=65536/\P (.pv p) { st with sl:=upd J5 JEN (.list J8O) }
def Fp:=p1 Fo
theorem PRs.dropLast {fz:FzP}{ps:List PV}{vs:List Value}(h:PRs fz ps vs):PRs fz J8O vs.dropLast:=by
 rw[JAy,JAy,JFS];exact h.take _
theorem zu {items:Array Value}(h:0<J12):(J5B (J12 - 1)).toList=items.toList.dropLast:=by
 rw[Array.eraseIdxIfInBounds,JEC (Nat.sub_lt h Nat.one_pos),Array.toList_eraseIdx]
 exact List.eraseIdx_length_sub_one
theorem Bi {n:Nat}:bh n (.builtin "list.pop") Fp:=by
 intro w A Γ X B AO st T vs args ws s h t Q E P hl H hv hQ
 refine e1_2 (Eg hv) λea er0 hv=> ?_
 obtain rfl:=er0
 refine e1_1 (Aj hl) λva er1=> ?_
 clear hl
 obtain rfl:=er1
 refine e1_2 (ah hv) λps q hv=> ?_
 refine e1_3 (ah hv) λp qp hk hP=> ?_
 clear hv
 refine J9 H λN own ρ m R=> ?_
 clear H hv
 obtain⟨i,a,items,k,rfl,rfl,hρ,q',q1,q2,q3,q4⟩:=R.ls q Jg.1
 rw[J9I,q4] at qp
 refine e1_2 (q3.get qp) λv y1 y2=> ?_
 refine av (JCo (s:=At s h t) PySem.F.slot_list_pop (az _ q2 rfl) PySem.F.entry_list_pop (PySem.F.args_list_pop_1 _)
  (MeetsSeq.list_pop_last a items k v (by simpa using y1) (fit_le (q4▸hk))) ⟨q2,?_⟩)
 have R':=JAt (ps:=J8O) (h':=JFR a (J2N λxs=>JAO (J12 - 1))) hρ q' (by intro z;cases z) q1 (J0f ..) (JD0 (show IsL h a items k from q2) λxs=>JAO (J12 - 1)) (by rw[zu (J2q (J1m _) (get_lt' y1))];exact q3.dropLast)
 exact hQ _ _ _ _ t ⟨_,_,_,_,J1e (.cons (.pv (J6l (J91 (N:=N) (own:=own) (d:=a) (o':=bG (J5B (J12 - 1)) (if (J5B (J12 - 1)).size==J12 then k else k+1)) (J2h hρ q' (by intro z;cases z)) (by intro z;cases z)).fz y2)) J7g.2)⟩ hP
def aY (k:List Int) (p:PV):List (List Int×PV)->List (List Int×PV):=lR [(k,p)] λx r t=>match x with |(j,q)=>cond (bY j k) ((j,p)::r) ((j,q)::t)
theorem e7 {k j:List Int}{p q:PV}{r:List (List Int×PV)}:aY k p ((j,q)::r)=cond (bY j k) ((j,p)::r) ((j,q)::aY k p r):=rfl
def gM (k:List Int):List (List Int×PV)->List (List Int×PV):=lR [] λx r t=>match x with |(j,q)=>cond (bY j k) r ((j,q)::t)
theorem qo {k j:List Int}{q:PV}{r:List (List Int×PV)}:gM k ((j,q)::r)=cond (bY j k) r ((j,q)::gM k r):=rfl
theorem uH {k:List Int}{es:List (List Int×PV)}:aE k es=none->k∉J4w (·.1):=by
 induction es with
 |nil=>exact λy h=>nomatch h
 |cons x r ih=>
  intro h hm
  have h:cond (bY x.1 k) (some x.2) (aE k r)=none:=h
  cases q:bY x.1 k with
  |true=>rw[q] at h;cases h
  |false=>
   rw[q] at h
   rcases Jf hm with z|z
   ·rw[JEG z.symm] at q;cases q
   ·exact ih h z
theorem wH {k:List Int}{p:PV}{es:List (List Int×PV)}:(aY k p es).map (·.1)=if (aE k es).isSome then J4w (·.1) else J4w (·.1)++[k]:=by
 induction es with
 |nil=>rfl
 |cons x r ih=>
  obtain⟨j,q⟩:=x
  rw[e7,dO]
  cases z:bY j k with
  |true=>rfl
  |false=>
   refine (JD (j::·) ih).trans ?_
   show _=if (aE k r).isSome then _ else _
   split<;>rfl
theorem setT_nodup {k:List Int}{p:PV}{es:List (List Int×PV)}(h:(J4w (·.1)).Nodup):((aY k p es).map (·.1)).Nodup:=by
 rw[wH]
 cases q:aE k es with
 |some x=>exact h
 |none=>exact J4J ⟨h,by simp,λa ha b hb e=>by rw[JQ hb] at e;exact uH q (e▸ha)⟩
theorem sA {k:List Int}{es:List (List Int×PV)}:(gM k es).Sublist es:=by
 induction es with
 |nil=>exact .slnil
 |cons x r ih=>
  obtain⟨j,q⟩:=x
  rw[qo]
  cases bY j k with
  |true=>exact List.sublist_cons_self _ _
  |false=>exact ih.cons_cons _
theorem delT_nodup {k:List Int}{es:List (List Int×PV)}(h:(J4w (·.1)).Nodup):((gM k es).map (·.1)).Nodup:=h.sublist (sA.map _)
theorem TEs.keys {fz:FzP}{es:List (List Int×PV)}{xs:List (List Int×Addr×Value)}(H:TEs fz es xs):J8G (·.1)=J4w (·.1):=by
 induction H with
 |nil=>rfl
 |cons _ _ _ ih=>simp [ih]
set_option tactic.hygienic true in
theorem TEs.app {fz:FzP}{es:List (List Int×PV)}{xs:List (List Int×Addr×Value)}(H:TEs fz es xs) {k:List Int}{p:PV}{b:Addr}{v:Value}(hk:PR fz (.tup (k.map .int)) (.ref b)) (hv:PR fz p v) (hf:aE k es=none):
  TEs fz (aY k p es) (xs++[(k,b,v)]):=by
 induction H with
 |nil=>exact .cons hk hv .nil
 |cons hp h hs ih=>
  rename_i j q b' v' es xs
  rw[dO] at hf
  rw[e7]
  cases z:bY j k with
  |true=>rw[z] at hf;cases hf
  |false=>rw[z] at hf;exact .cons hp h (ih hf)
set_option tactic.hygienic true in
theorem TEs.old {fz:FzP}{es:List (List Int×PV)}{xs:List (List Int×Addr×Value)}(H:TEs fz es xs) {k:List Int}{p:PV}{v:Value}(hv:PR fz p v):(J4w (·.1)).Nodup->(aE k es).isSome=true->TEs fz (aY k p es) (J8G (putAt k v)):=by
 induction H with
 |nil=>intro _ q;cases q
 |cons hp h hs ih=>
  rename_i j q b' v' es xs
  intro hn q
  rw[e7]
  rw[dO] at q
  cases z:bY j k with
  |true=>
   have e:=JFd z
   have hnot:k∉J8G (·.1):=by
    rw[hs.keys,<- e];exact (J0S hn).1
   rw[J0t,putAt,JC e,map_putAt_of_not_mem xs k v hnot]
   exact .cons hp hv hs
  |false=>
   have hne:¬j=k:=λe=>by rw[JEG e] at z;cases z
   replace q:=(z)▸q
   rw[J0t,putAt,JL hne]
   exact .cons hp h (ih (J0S hn).2 q)
theorem TEs.stored {fz:FzP}{es:List (List Int×PV)}{xs:List (List Int×Addr×Value)}(H:TEs fz es xs) (hn:(J4w (·.1)).Nodup) {k:List Int}{p:PV}{b:Addr}{v:Value}(hk:PR fz (.tup (k.map .int)) (.ref b)) (hv:PR fz p v):
  TEs fz (aY k p es) (storedH xs k b v):=by
 have F:=H.find (k:=k)
 cases q:aE k es with
 |some x=>
  rw[q] at F
  refine e2_2 F λa u f1 y=> ?_
  clear F
  rw[storedH_old f1]
  exact H.old hv hn (by rw[q];rfl)
 |none=>
  rw[q] at F
  rw[storedH_new F]
  exact H.app hk hv q
set_option tactic.hygienic true in
theorem TEs.del {fz:FzP}{es:List (List Int×PV)}{xs:List (List Int×Addr×Value)}(H:TEs fz es xs):(J4w (·.1)).Nodup->∀{k:List Int}{j:Nat}{q:Addr×Value},xs[j]? =some (k,q)->TEs fz (gM k es) (JBU j):=by
 induction H with
 |nil=>intro _ k j q h;cases h
 |cons hp h hs ih=>
  rename_i k' p b' v' es xs
  intro hn k j q hj
  rw[qo]
  cases j with
  |zero=>
   cases hj
   rw[JEG rfl]
   exact hs
  |succ j=>
   have hne:bY k' k=false:=by
    cases z:bY k' k with
    |false=>rfl
    |true=>
     have e:=JFd z
     have hm:k∈J8G (·.1):=J1o (az _ (J01 (J5T▸hj)) rfl)
     rw[hs.keys,<- e] at hm
     exact absurd hm (J0S hn).1
   refine (hne).symm▸?_
   exact .cons hp h (ih (J0S hn).2 (J5T▸hj))
section
variable {w:World}{Γ:Nm}{X:Fx}{st:St}{T:List EV}{vs:List Value}{h h':Heap}{N:Led}{own:Own}{ρ:List Addr}{m:Str->Option Value}
theorem aA.setTd (R:aA w Γ X st T vs h N own ρ m) {i:Nat}{a:Addr}{so:SO}{es:List (List Int×PV)}{xs:List (List Int×Addr×Value)}{o:Obj}(hρ:ρ[i]? =some a) (q:J5[i]? =some so) (hd:so≠.dead) (lo:(a==J2I)=false) (hm:(a,o)∈N) (hs:J0m a h h') (ho:JCk (TK w) a xs)
  (ht:TEs (aI JA N own) es xs) (hn:(J4w (·.1)).Nodup):∃N',aA w Γ X { st with sl:=upd J5 i (.tdict es) } T vs h' N' own ρ m/\∀b ob,aI JA N own b ob->aI JA N' own b ob:=by
 refine e3_6 ho λo' ds ep h1 h2 h3 h4 h5 h6=> ?_
 clear ho
 have E':=J91 (N:=N) (own:=own) (d:=a) (o':=o') (J2h hρ q hd) (by intro z;cases z)
 exact (az _ (JA3 hρ q hd hm hs h1 λmz=>.tdict bD lo h2 h3 h4 hn (J9u mz)) JBx)
end
def Cn (r:Bool) (a b:EV):VC Bool:=λst P=>aj (wC b st) λes=>aj (sh a) λks=>P ((aE ks es).isSome==r) st
theorem CM {n:Nat}{r:Bool}{op:CmpOp}(hop:∀{w:World}{A:J7}{s:J1}{E Q:Value->J1->Prop}{k:List Int}{a d:Addr}{xs:List (List Int×Addr×Value)},(TK w).room J6t->(TK w).is JG k a->(d==J2I)=false->J99 (TK w) d xs->
  Q (.bool ((atKey xs k).isSome==r)) { s with toks:=J3E+(TK w).draws k }->ae (model prog0 w) A (compareOp op (.ref a) (.ref d)) Q E s):OpC n op (Cn r):=by
 intro w A Γ X B AO st T vs ea eb va vb s h t Q E P H hv hQ
 refine e1_2 (ah hv) λes q hv=> ?_
 refine e1_2 (ah hv) λks q2 hv=> ?_
 have K:=hQ _ st h (t+(TK w).draws ks) H hv
 clear hQ hv
 refine J9 H λN own ρ m R=> ?_
 refine e0_3 J14 λz z2 zs=> ?_
 clear H hv
 obtain⟨i,d,xs,o,rfl,rfl,hρ,_,D,ht,lo,_,_,_⟩:=R.td B q z
 refine e1_3 (la (w:=w) (λa o q=>J29 B q) q2 z2) λa er0 hk y=> ?_
 refine Jm▸?_
 refine hop (s:=At s h t) (J92 (k:=1)) hk lo D ?_
 cases qf:aE ks es with
 |some p=>obtain⟨b,v,f1,_⟩:=ht.hit qf;rw[qf] at K;rw[f1];exact K
 |none=>rw[qf] at K;rw[ht.miss qf];exact K
theorem xl {n:Nat}:OpC n .NotIn (Cn false):=CM λhu hk hd hm hq=>av (wpAny_notIn_heap hu hk hd hm (by simpa using hq))
def zD (eo ei ea:EV):VC Unit:=λst P=>aj (wC eo st) λes=>aj (sh ei) λks=>aj (Bx ea) λp=>J1H<=65536/\P () { st with sl:=upd J5 (eo.slot) (.tdict (aY ks p es)) }
section
variable {Γ:Nm}{n:Nat}
def Fj (eo ei ea:EV):VC Unit:=λst P=>Ask (zD eo ei ea st P)
theorem yU {o i:Expr}{pos:Pos}{vo vi:VC EV}(ho:Sem Γ n o vo) (hi:Sem Γ n i vi):cO Γ n (.Subscript o i pos) (λea st P=>vo st λeo st1=>vi st1 λei st2=>Fj eo ei ea st2 P):=by
 intro w A env X C st T vs ea va s h t Q E P H hv hQ
 refine aa (ai (ho C H hv λeo v st1 h1 t1 H1 hv1=>aa (ai (hi C H1 hv1 λei u st2 h2 t2 H2 hv2=>aa (am (aa (ai ?_)))))))
 have B:=J1q
 have AO:=J54
 clear hv1 H1 hv H ho hi C
 have fin:∀{l:List Value}{st' h' t'},Rel w Γ X st' T vs h'->P () st'->ae (model prog0 w) A (JBX l []) Q E (At s h' t'):=λH' hP=>cJ (hQ _ _ _ H' hP)
 clear hQ
 refine J9 H2 λN own ρ m R=> ?_
 refine e0_4 R.tmp.inv3 λz z2 z3 zs=> ?_
 refine e1_2 (ah hv2.out) λes q hv=> ?_
 refine e1_2 (ah hv) λks q2 hv=> ?_
 refine e1_3 (ah hv) λp q3 hb hP=> ?_
 clear hv hv2
 clear H2 hv
 cases qO q3
 clear q3
 obtain⟨i,d,xs,o,rfl,rfl,hρ,q',D,ht,lo,hm,hn,hl⟩:=R.td B q z2
 refine e1_3 (la (w:=w) (λa o q=>J29 B q) q2 z) λa er0 hk hkp=> ?_
 refine Jm▸?_
 refine av (wpAny_setItem_heap (s:=At s h2 t2) (J92 (k:=1)) hk D (λh' hD hs=> ?_) (fit_le (hl▸hb)))
 refine e1_2 (R.setTd hρ q' (by intro z;cases z) lo hm hs hD (ht.stored hn hkp z3.pvI) (setT_nodup hn)) λN' R' y=> ?_
 exact fin ⟨_,_,_,_,J1e R'.tmp.inv3.2.2.2⟩ hP
end
def Eb (a b:EV):VC EV:=λst P=>aj (wC a st) λes=>aj (sh b) λks=>aj (aE ks es) λp=>J1H<=65536/\P (.pv p) { st with sl:=upd J5 JEN (.tdict (gM ks es)) }
def Dl:=p2 Eb
theorem pX {xs:List (List Int×Addr×Value)}{k:List Int}{p:Addr×Value}(h:atKey xs k=some p):∃j:Nat,xs[j]? =some (k,p):=by
 unfold atKey at h
 refine e1_2 (Jw h) λx hx er0=> ?_
 clear h
 obtain rfl:=er0
 have h1:=List.mem_of_find?_eq_some hx
 have h2:=List.find?_some hx
 refine e1_1 (J15 h1) λj hj=> ?_
 refine⟨j,?_⟩
 rw[hj]
 have:x.1=k:=J05 h2
 rw[<- this]
theorem nP {α β:Type}(f:α->β) (l:List α):∀j:Nat,(l.eraseIdx j).map f=(JE f).eraseIdx j:=by
 induction l with
 |nil=>exact λj=>rfl
 |cons a l ih=>intro j;cases j with
  |zero=>rfl
  |succ j=>exact JD (f a::·) (ih j)
theorem pk {w:World}{A:J7}{s:J1}{E:Value->J1->Prop}{d a:Addr}{k:List Int}{xs:List (List Int×Addr×Value)}{j:Nat}{p:Addr×Value}{Q:Option J0g->J1->Prop}(hu:(TK w).room A) (hkey:(TK w).is JG k a) (hm:J99 (TK w) d xs) (hj:xs[j]? =some (k,p))
  (hQ:∀h',(JCk (TK w) d (JBU j))->J0m d JG h'->Q (some ⟨(TK w).hash k,.ref p.1,p.2⟩) { s with heap:=h',toks:=J3E+(TK w).draws k }) (hsz:J4b<=J1g):
  JF (model prog0 w) A (JBS d (.ref a)) Q E s:=by
 refine e3_6 hm λo es ep ho hc hd he his hn=> ?_
 clear hm
 have hes:es.size<=J1g:=by rw[JDj he];exact hsz
 unfold JBS
 try with_reducible refine J3Y ?_
 refine kB ((TK w).pyHash hu hkey ?_)
 refine kB (wpAny_dictFind_heap (s:={ s with toks:=J3E+(TK w).draws k }) hu hkey ho hd he his hn (λhno=>absurd hj (hno j p)) λj' p' hj'=> ?_)
 obtain rfl:j'=j:=idxH_unique hn hj' hj
 replace hj':=(hj)▸hj'
 cases hj'
 refine kB (J45 (s:={ s with toks:=J3E+(TK w).draws k }) ho hd ?_)
 refine kq ?_
 rw[entry_at he,hj]
 refine kB (wpAny_updateDictKeys (hz:=hes) (s:={ s with toks:=J3E+(TK w).draws k }) ho hd (JI (hQ _ ⟨_,_,ep+1,J1f _ ho (JBp (JBL hd _)),
   hc.mapDictKeys _,JBL hd _,?_,λx hx=> ?_,?_⟩ (J0f ..))))
 ·obtain⟨l⟩:=es
  simp only [List.eraseIdxIfInBounds_toArray] at he ⊢
  have:l=J8G (J9Y (TK w)):=he
  refine JAT▸?_
  exact (nP _ _ _).symm
 ·exact (TK w).keeps (his x ((λx hx=>List.mem_of_mem_eraseIdx hx) x hx)) ho hd (J0f ..)
 ·exact hn.sublist ((List.eraseIdx_sublist ..).map _)
theorem zw {w:World}{A:J7}{s:J1}{E Q:Value->J1->Prop}{d a:Addr}{k:List Int}{xs:List (List Int×Addr×Value)}{b:Addr}{v:Value}(hu:(TK w).room J6t) (hk:(TK w).is JG k a) (D:J99 (TK w) d xs) (f1:atKey xs k=some (b,v)) (hsz:J4b<=J1g)
  (hQ:∀j h',xs[j]? =some (k,b,v)->JCk (TK w) d (JBU j)->J0m d JG h'->Q v { s with heap:=h',toks:=J3E+(TK w).draws k }):ae (model prog0 w) A (call (.builtin "dict.pop") [.ref d,.ref a]) Q E s:=by
 refine e1_1 (pX f1) λj hj=> ?_
 refine av (JAp (S:=λA R s=>JF (model prog0 w) J6t (Builtin.«dict.pop» ⟨[.ref d,.ref a],[]⟩) (λfin s'=>∃v,fin=.done (.ret v)/\R (.ok (.ret v)) s') (λe s'=>R (.error e) s') s)
  PySem.F.slot_dict_pop J7M PySem.F.entry_dict_pop (PySem.F.args_dict_pop_2 _ _) (.of_wp λA R s h=>h) ?_)
 refine kB ?_
 refine kB (JAR J7M ?_)
 refine JI ?_
 refine e3_6 (id D) λod ds ep w1 w2 w3 w4 w5 w6=> ?_
 refine kB (J45 w1 w3 ?_)
 have hne:ds.isEmpty=false:=J0K λz=>by
  have e1:=JDj w4
  rw[show J3m=0 from z] at e1
  exact absurd (get_lt' hj) (by rw[<- e1];exact JEa _)
 refine kq ?_
 rw[hne]
 refine kB (JI (J18 rfl ?_))
 refine kB (pk hu hk D hj (λh' hD hs=> ?_) hsz)
 show JF _ _ (letGo [.ref b] [v]>>=λy=>ret v) _ _ _
 exact kB (JGm (JI (az v rfl (hQ j h' hj hD hs))))
theorem xM {n:Nat}:bh n (.builtin "dict.pop") Dl:=by
 intro w A Γ X B AO st T vs args ws s h t Q E P hl H hv hQ
 refine e2_2 (rT hv) λea eb er0 hv=> ?_
 obtain rfl:=er0
 refine e2_1 (xt hl) λva vb er1=> ?_
 clear hl
 obtain rfl:=er1
 refine e1_2 (ah hv) λes q hv=> ?_
 refine e1_2 (ah hv) λks q2 hv=> ?_
 refine e1_3 (ah hv) λp q3 hb hP=> ?_
 clear hv
 refine J9 H λN own ρ m R=> ?_
 refine e0_3 J14 λz z2 zs=> ?_
 clear H hv
 obtain⟨i,d,xs,o,rfl,rfl,hρ,q',D,ht,lo,hm,hn,hlen⟩:=R.td B q z
 refine e1_3 (la (w:=w) (λa o q=>J29 B q) q2 z2) λa er2 hk y=> ?_
 refine J3P▸?_
 refine e2_2 (ht.hit q3) λb v f1 f2=> ?_
 refine zw (s:=At s h t) (J92 (k:=1)) hk D f1 (fit_le (hlen▸hb)) λj h' hj hD hs=> ?_
 refine e1_2 (R.setTd hρ q' (by intro z;cases z) lo hm hs hD (ht.del hn hj) (delT_nodup hn)) λN' R' mz=> ?_
 exact hQ _ _ _ h' _ ⟨_,_,_,_,J1e (.cons (.pv (J6l mz f2)) J4l.2.2)⟩ hP
section
variable {w:World}{Γ:Nm}{X:Fx}{st:St}{T:List EV}{vs:List Value}{h h':Heap}{N:Led}{own:Own}{ρ:List Addr}{m:Str->Option Value}
theorem aA.notMod (B:BOk w X) (R:aA w Γ X st T vs h N own ρ m):(JM==J2I)=false:=by
 obtain⟨p,mg,mb,loose,TR⟩:=B.top
 exact R.fr.notModules (modules_low TR.nolimit)
theorem Rel.heldSlot {d:Addr}{o o':Obj}{so':SO}(H:Rel w Γ (Jp [(d,o)]) st T vs h) (ho:JW d=some o') (hs:J0m d h h') (hf:o'.isFreed=false)
  (hS:∀N' own' fz' ρ',(d,o')∈N'->own' d=.slot JK->EVs fz' ρ' T vs->SOR w N' own' fz' ρ' JK d so'):Rel w Γ X { st with sl:=J5++[so'] } (.loc JK::T) (.ref d::vs) h':=by
 refine J9 H λN own ρ m R=> ?_
 obtain⟨q1,q2⟩:=J4k (d,o) (J06 _ JB)
 have hd:=(JH _ q1).2
 have hn:(addrs JEP).Nodup:=by
  have:=J7y
  rw[Ji] at this
  exact (J1W this).2.1
 have R2:aA w Γ X st T vs h' _ _ _ _:=(JEM (hs':=[]) (h':=h') R hn (λp hp=>by cases hp) (λp hp=>by cases hp) (λb ob hb e=>(hs.2 b (λz=>hb (by rw[z];exact JB))).trans e))
 have fresh:∀p∈[]++ledNo N (addrs [(d,o)]),p.1≠d:=λp hp z=>by
  obtain⟨y1,y2⟩:=bL.mp hp
  exact y2 (by rw[z];exact JB)
 have E':=J4C (own:=λa=>if a∈addrs [] then JFo else own a) (a:=d) (o:=o') (l:=.slot JK) fresh
 have R3:=R2.newSlot (a:=d) (so':=so') E' R2.fr (λp hp=>by
  rcases Jf hp with rfl|hp
  ·exact⟨ho,hd⟩
  ·exact R2.nw p hp) (hS _ _ _ _ JB br (R2.tmp.mono JBx (e8 (J3q _ _)))) br
 exact⟨_,_,_,_,R3.temps (.cons (.loc (by rw[R2.len,J0D (Jb _)];simp)) R3.tmp)⟩
end
section
variable {Γ:Nm}{n:Nat}
theorem wO {pos:Pos}:Sem Γ n (.Dict [] [] pos) (λst P=>P (.loc JK) { st with sl:=J5++[.tdict []] }):=by
 intro w A env X C st T vs s h t Q E P H hv hQ
 refine av (wpAny_Dict_empty (s:=At s h t) ?_)
 refine J9 H λN own ρ m R=> ?_
 have hnm:=R.notMod J1q
 have E':=J4C (own:=own) (a:=JM) (o:=J22) (l:=.slot JK) (dh JH)
 have R':=JEU (a:=JM) (so':=.tdict []) E' (R.fr.push _) (R.nw.push JF7 _ rfl) (.tdict (o:=J22) (ds:= #[]) (ep:=0) (xs:=[]) JB hnm (i_aa rfl rfl rfl) rfl rfl J1B .nil) br
 exact hQ _ _ _ _ t ⟨_,_,_,_,J1e (.cons (.loc (by rw[JBn,J0D (Jb _)];simp)) J7o)⟩ hv
def BC (Γ:Nm) (n:Nat) (ps:Env->List (J1M Value×J1M Value)) (ks:List Nat) (vc:VC (List EV)):Prop:=
 ∀{{w:World}} {{A:J7}} {{env:Env}} {{X:Fx}},Cx w A env Γ X n->∀{{st:St}} {{T:List EV}} {{vs:List Value}} {{s:J1}} {{h:Heap}} {{t:Nat}} {{Q:List (Value×Value)->J1->Prop}} {{E:Value->J1->Prop}} {{P:List EV->St->Prop}},
  Rel w Γ X st T vs h->vc st P->(∀evs ps' ws st' h' t',JCm=Jx->JHb (SK w) ps' ((J8V ak).zip ws)->Jx=JAg->Rel w Γ X st' (evs++T) (ws++vs) h'->P evs st'->Q ps' (At s h' t'))->ae (model prog0 w) A (J5w (ps env)) Q E (At s h t)
theorem y5:BC Γ n (λy=>[]) [] (λst P=>P [] st):=by
 intro w A env X C st T vs s h t Q E P H hv hQ
 exact n4 (hQ [] [] [] st h t rfl trivial rfl H hv)
theorem wX {k:Nat}{x:Str}{kk:Nat}{kp pos:Pos}{e:Expr}{ps:Env->List (J1M Value×J1M Value)}{ks:List Nat}{va:VC EV}{vb:VC (List EV)}(hx:x=ak k) (ha:Sem Γ n e va) (hb:BC Γ n ps ks vb):
  BC Γ n (λenv=>(eval (.Constant (.str x) kk kp) env,(do let v <- eval e env;standAt pos;pure v))::ps env) (k::ks) (λst P=>va st λa st1=>vb st1 λas st2=>P (a::as) st2):=by
 subst hx
 intro w A env X C st T vs s h t Q E P H hv hQ
 refine mq (av (J3u ?_))
 refine aa (ha C (s:=s) (h:=h) (t:=t+1) H hv λea va st1 h1 t1 H1 hv1=>aa (am (af ?_)))
 refine hb C H1 hv1 λes ps' ws st2 h2 t2 hl hc hk H2 hv2=> ?_
 refine hQ (ea::es) _ (va::ws) st2 h2 t2 (by simp [hl]) (i_aa ?_ rfl hc) (by simp [hk]) ?_ hv2
 ·exact J0p _
 ·refine J9 H2 λN own ρ m R=> ?_
  refine e0_2 (J1N hl J62) λq1 q2=> ?_
  refine e0_2 q2.inv λz zs=> ?_
  exact⟨N,own,ρ,m,Jj (.cons z (J5q zs))⟩
def uu:List Nat->Bool:=lR true λi r q=> !(nT i r)&&q
def DG (ks:List Nat) (es:List EV):List (Nat×EV):=ks.zip es
theorem ut {l:List Nat}:uu l=true->JDw:=by
 induction l with
 |nil=>exact λy=>J1B
 |cons i r ih=>
  intro h
  obtain⟨h1,h2⟩:=J07 h
  refine J1c ⟨λz=> ?_,ih h2⟩
  rw[f5.mpr z] at h1;cases h1
theorem EVk.ofZip {fz:FzP}{ρ:List Addr}{ks:List Nat}:∀{es:List EV}{ws:List Value},(∀k∈ks,k<J1L)->Jx=JAg->EVs fz ρ es ws->EVk fz ρ (DG ks es) ((J8V ak).zip ws):=by
 induction ks with
 |nil=>exact λy y h=>.nil
 |cons k ks ih=>
  intro es ws hk hl h
  cases h with
  |nil=>cases hl
  |cons z zs=>exact .cons (hk k JB) z (ih (λj hj=>hk j (Jk _ hj)) (J3b hl) zs)
theorem Av {ks:List Str}{ws:List Value}(h:Jx=JAg):(ks.zip ws).map (·.1)=ks:=List.map_fst_zip (J2z h.symm)
theorem s4 {ks:List Nat}:(∀k∈ks,k<J1L)->ks.Nodup->(J8V ak).Nodup:=by
 induction ks with
 |nil=>exact λy y=>J1B
 |cons k ks ih=>
  intro hk hn
  refine e0_2 (J0S hn) λh1 h2=> ?_
  refine J1c ⟨λz=> ?_,ih (λj hj=>hk j (Jk _ hj)) h2⟩
  refine e1_2 (Ja z) λj hj e=> ?_
  exact h1 (cY (hk j (Jk _ hj)) (hk k JB) e▸hj)
def BA (n:Nat) (l:List Nat):Bool:=l.all (J5R · n)
theorem o7 {n:Nat}{l:List Nat}(h:BA n l=true):∀i∈l,i<n:=λi hi=>J0G (J6p h i hi)
theorem yJ {keys:List (Option Expr)}{values:List Expr}{pos:Pos}{ps:Env->List (J1M Value×J1M Value)}{ks:List Nat}{va:VC (List EV)}(ha:BC Γ n ps ks va)
  (hshape:∀env,(JBe keys env).zip ((J9x values env).map λv=>do let x <- v;standAt pos;pure x)=(ps env).map λp=>(some p.1,p.2)) (h0:∀env,ps env≠[]) (hlen:∀env,(ps env).length<=15) (hlt:BA J1L ks=true) (hnd:uu ks=true) (h15:J8p JAg 15=true):
  Sem Γ n (.Dict keys values pos) (λst P=>va st λas st1=>P (.loc st1.sl.length) { st1 with sl:=st1.sl++[.sdict (DG ks as)] }):=by
 intro w A env X C st T vs s h t Q E P H hv hQ
 refine ju (knd:=SK w) (s:=At s h t) (hshape env) (h0 env) (hlen env) ?_
 have hnm:(JM==J2I)=false:=by obtain⟨N,own,ρ,m,R⟩:=H;exact R.notMod J1q
 have H0:Rel w Γ (Jp [(JM,J22)]) st T vs (J2R J22):=by
  refine JEk (by simp [addrs]) (λp hp=> ?_) (λp hp=> ?_) λb o e=>JY _ e
  ·obtain rfl:=JQ hp;exact Jb _
  ·obtain rfl:=JQ hp;exact J09 _ rfl
 refine ha (JEr _) (s:=s) (h:=J2R J22) (t:=t) H0 hv λevs ps' ws st' h' t' hl hc hk H' hP=> ?_
 refine (ie _ hc (by rw[List.length_zip,J6];exact JJ (J8n _ _) (J0G h15)) (dj J22 (#[]) 0 (H'.heldGet (p:=(JM,J22)) JB) (i_aa rfl rfl rfl) rfl (λe he=>by simp at he) (.nil) J1B) (λh'' hD hs=> ?_))
 have hkn:(((J8V ak).zip ws).map (·.1)).Nodup:=by
  rw[Av (by simp [hk])]
  exact s4 (o7 hlt) (ut hnd)
 rw[merged_nil_of_nodup _ hkn] at hD
 refine e3_6 hD λo' ds ep w1 w2 w3 w4 w5 w6=> ?_
 clear hD
 have H2:=H'.heldSlot (so':=.sdict (DG ks evs)) w1 hs (JBp w3) λN' own' fz' ρ' hm hown hev=>by
  refine e0_2 (J1N hl hev) λq1 q2=> ?_
  exact .sdict hm hnm w2 w3 w4 w5 w6 (EVk.ofZip (o7 hlt) hk q1)
 refine J9 H2 λN own ρ m R=> ?_
 refine hQ _ _ _ h'' _ ?_ hP
 refine e0_2 Jg λz zs=> ?_
 exact⟨_,_,_,_,Jj (.cons z (J1N hl zs).2)⟩
end
set_option tactic.hygienic true in
theorem EVk.find {fz:FzP}{ρ:List Addr}{as:List (Nat×EV)}{kvs:List (Str×Value)}(h:EVk fz ρ as kvs) {k:Nat}(hk:k<J1L):match findA k as with
  |some ev=>∃v,J8J kvs (ak k)=some v/\EVR fz ρ ev v
  |none=>J8J kvs (ak k)=none:=by
 induction h with
 |nil=>rfl
 |cons hl h _ ih=>
  rename_i j p v as es _
  rw[qb]
  unfold J8J
  cases q:J1z k j with
  |true=>
   have:=J19 q
   refine JAT▸?_
   exact (az v (by rw[J43 (by simp)];rfl) h)
  |false=>
   have hne:¬ak j=ak k:=λz=>J40 q (cY hl hk z).symm
   rw[J2l (by simp [hne])]
   exact ih
def iV (x:Str):List (Nat×EV)->Option EV:=lR none λp y r=>match p with |(j,a)=>if ak j=x then some a else r
theorem CP {x:Str}{j:Nat}{a:EV}{r:List (Nat×EV)}:iV x ((j,a)::r)=if ak j=x then some a else iV x r:=rfl
set_option tactic.hygienic true in
theorem EVk.findW {fz:FzP}{ρ:List Addr}{as:List (Nat×EV)}{kvs:List (Str×Value)}(h:EVk fz ρ as kvs) {x:Str}:match iV x as with
  |some ev=>∃v,J8J kvs x=some v/\EVR fz ρ ev v
  |none=>J8J kvs x=none:=by
 induction h with
 |nil=>rfl
 |cons hl h _ ih=>
  rename_i j p v as es _
  rw[CP]
  unfold J8J
  by_cases q:ak j=x
  ·rw[JC q]
   exact⟨v,by rw[J43 (by simp [q])];rfl,h⟩
  ·rw[JL q,J2l (by simp [q])]
   exact ih
theorem EVk.keysK {fz:FzP}{ρ:List Addr}{as:List (Nat×EV)}{kvs:List (Str×Value)}(h:EVk fz ρ as kvs):J4f (·.1)=J9c λp=>ak p.1:=by
 induction h with
 |nil=>rfl
 |cons _ _ _ ih=>simp [ih]
theorem lB {k j:Str}{v u:Value}{r:List (Str×Value)}(h:¬j=k):stored ((j,u)::r) k v=(j,u)::stored r k v:=by
 unfold stored
 rw[JAB]
 simp only [h,decide_false,J7N]
 split
 ·rw[J0t,JL h]
 ·rfl
theorem Ac {k:Str}{v:Value}{r:List (Str×Value)}:k∉JGu (·.1)->JGu (λkv=>if kv.1=k then (kv.1,v) else kv)=r:=by
 induction r with
 |nil=>exact λy=>rfl
 |cons x r ih=>
  intro h
  rw[J0t,JL (λz:x.1=k=>h (z▸JB)),ih λz=>h (Jk _ z)]
set_option tactic.hygienic true in
theorem EVk.put {fz:FzP}{ρ:List Addr}{as:List (Nat×EV)}{kvs:List (Str×Value)}(h:EVk fz ρ as kvs) {k:Nat}(hk:k<J1L) {ev:EV}{v:Value}(hv:EVR fz ρ ev v):(J4f (·.1)).Nodup->EVk fz ρ (pw k ev as) (stored kvs (ak k) v):=by
 induction h with
 |nil=>intro _;exact .cons hk hv .nil
 |cons hl h h2 ih=>
  rename_i j p u as es
  intro hn
  rw[tP]
  cases q:J1z k j with
  |true=>
   have:=J19 q
   clear q
   subst this
   have hnot:ak k∉J4w (·.1):=(J0S hn).1
   unfold stored
   rw[JC (by simp),J0t,JC rfl,Ac hnot]
   exact .cons hl hv h2
  |false=>
   rw[lB (λz=>J40 q (cY hl hk z).symm)]
   exact .cons hl h (ih (J0S hn).2)
def BW:SO->Option (List (Nat×EV))
 | .sdict as=>some as
 |_=>none
theorem yu {so:SO}{as:List (Nat×EV)}(q:BW so=some as):so=.sdict as:=by cases so<;>cases q;rfl
abbrev B5:=cU BW
def GI (k:Nat) (eo:EV):VC EV:=λst P=>aj (B5 eo st) λas=>aj (findA k as) λev=>P ev st
def Fm (k:Nat) (eo ea:EV):VC Unit:=λst P=>aj (B5 eo st) λas=>Dk as=true/\P () { st with sl:=upd J5 eo.slot (.sdict (pw k ea as)) }
theorem EVk.hit {fz:FzP}{ρ:List Addr}{as:List (Nat×EV)}{kvs:List (Str×Value)}(h:EVk fz ρ as kvs) {k:Nat}(hk:k<J1L) {ev:EV}(q:findA k as=some ev):∃v,J8J kvs (ak k)=some v/\EVR fz ρ ev v:=by
 have:=JGF hk
 rw[q] at this;exact this
inductive G4 (w:World) (X:Fx) (st:St) (h:Heap) (N:Led) (own:Own) (ρ:List Addr) (e:EV) (v:Value) (as:List (Nat×EV)):Prop
 |mk (i:Nat) (a:Addr) (kvs:List (Str×Value)) (o:Obj) (he:e=.loc i) (hv:v=.ref a) (hρ:ρ[i]? =some a) (q:J5[i]? =some (.sdict as)) (D:h.DictOf (SK w) a kvs) (hE:EVk (aI JA N own) ρ as kvs) (lo:(a==J2I)=false) (hm:(a,o)∈N) (hn:(J4f (·.1)).Nodup) (hl:J2g=J2b)
section
variable {w:World}{Γ:Nm}{X:Fx}{st:St}{T:List EV}{vs:List Value}{h h':Heap}{N:Led}{own:Own}{ρ:List Addr}{m:Str->Option Value}
theorem aA.sd (R:aA w Γ X st T vs h N own ρ m) {e:EV}{v:Value}{as:List (Nat×EV)}(q:B5 e st=some as) (he:EVR (aI JA N own) ρ e v):G4 w X st h N own ρ e v as:=by
 refine e2_3 (eE q) λi so er0 q1 q2=> ?_
 clear q
 obtain rfl:=er0
 cases yu q2
 refine e1_2 JAj λa er1 hρ=> ?_
 refine J0y▸?_
 obtain⟨o,_,_,kvs,h1,lo,hx,hd,hk,hp,hn,ha⟩:=(J96 i a _ hρ q1).inv
 exact⟨i,a,kvs,o,rfl,rfl,hρ,q1,(dj _ _ _ ((JH _ h1).1) hx hd hk hp hn),ha,lo,h1,hn,(J6 _).symm.trans ((JD J4p ha.keysK).trans (J6 _))⟩
end
section
variable {Γ:Nm}{n:Nat}
theorem tQ {value:Expr}{x:Str}{kk:Nat}{kp pos:Pos}{vo:VC EV}{k:Nat}(ho:Sem Γ n value vo) (hx:x=ak k) (hk:k<J1L):Sem Γ n (.Subscript value (.Constant (.str x) kk kp) pos) (λst P=>vo st λa st1=>GI k a st1 P):=by
 subst hx
 intro w A env X C st T vs s h t Q E P H hv hQ
 refine ee (ho C H hv λeo v st1 h1 t1 H1 hv1=>av (J3u ?_))
 clear H hv C ho
 refine e1_2 (ah hv1) λas q hv=> ?_
 refine e1_2 (ah hv) λev q2 hP=> ?_
 clear hv hv1
 refine J9 H1 λN own ρ m R=> ?_
 refine e0_2 Jg λz zs=> ?_
 clear H1
 obtain⟨i,a,kvs,o,rfl,rfl,hρ,_,D,hE,_,_,_,_⟩:=R.sd q z
 refine e1_2 (hE.hit hk q2) λv f1 f2=> ?_
 exact cy (s:=At s h1 (t1+1)) (T:="dict") J7M J7O (av (wpAny_getItem_of (knd:=SK w) (k:=ak k) (J0p _) D.mapOf f1 (hQ _ _ st1 h1 _ ⟨_,_,_,_,Jj (.cons f2 zs)⟩ hP))) rfl
theorem rk {o:Expr}{x:Str}{kk:Nat}{kp pos:Pos}{vo:VC EV}{k:Nat}(ho:Sem Γ n o vo) (hx:x=ak k) (hk:k<J1L):cO Γ n (.Subscript o (.Constant (.str x) kk kp) pos) (λea st P=>vo st λeo st1=>Fm k eo ea st1 P):=by
 subst hx
 intro w A env X C st T vs ea va s h t Q E P H hv hQ
 refine aa (ai (ho C H hv λeo v st1 h1 t1 H1 hv1=>aa (ai (av (J3u (aa (am (aa (ai ?_)))))))))
 clear H hv C ho
 have fin:∀{l:List Value}{st' h' t'},Rel w Γ X st' T vs h'->P () st'->ae (model prog0 w) A (JBX l []) Q E (At s h' t'):=λH' hP=>cJ (hQ _ _ _ H' hP)
 clear hQ
 refine e1_3 (ah hv1) λas q hb hP=> ?_
 clear hv1
 refine J9 H1 λN own ρ m R=> ?_
 refine e0_3 J14 λz z2 zs=> ?_
 clear H1
 obtain⟨i,a,kvs,ob,rfl,rfl,hρ,q',D,hE,lo,hm,hn,hlen⟩:=R.sd q z
 refine av (wpAny_setItem_pairs (knd:=SK w) (k:=ak k) (s:=At s h1 (t1+1)) (J0p _) D (λh' hD hs=> ?_) (fit_le (JJ (hlen▸J0G hb) (by unfold bc;decide))))
 refine e3_6 hD λo' ds ep w1 w2 w3 w4 w5 w6=> ?_
 clear hD
 have R':=JA3 (so':=.sdict (pw k ea as)) hρ q' (by intro z;cases z) hm hs w1 λmz=>.sdict bD lo w2 w3 w4 w5 w6 ((hE.mono mz λy y z=>z).put hk (J44 mz λy y z=>z) hn)
 exact fin ⟨_,_,_,_,J1e J4l.2.2⟩ hP
end
def FA (a b:EV):VC EV:=λst P=>aj (B5 a st) λas=>aj (eT b) λx=>bj (iV x as) (λev=>P ev st) (P (.pv .none) st)
def FC:=p2 FA
theorem Bj {n:Nat}:bh n (.builtin "dict.get") FC:=by
 intro w A Γ X B AO st T vs args ws s h t Q E P hl H hv hQ
 refine e2_2 (rT hv) λea eb er0 hv=> ?_
 obtain rfl:=er0
 refine e2_1 (xt hl) λva vb er1=> ?_
 obtain rfl:=er1
 refine e1_2 (ah hv) λas q hv=> ?_
 refine e1_2 (ah hv) λx q2 hP=> ?_
 clear hv hl
 refine J9 H λN own ρ m R=> ?_
 refine e0_3 J14 λz1 z2 zs=> ?_
 clear H hv
 obtain⟨i,d,kvs,ob,rfl,rfl,hρ,_,D,hE,lo,hm,hn,hlen⟩:=R.sd q z1
 refine e1_1 (dt q2 z2) λtk er2=> ?_
 refine J3P▸?_
 refine av (JAp (s:=At s h t) PySem.F.slot_dict_get J7M PySem.F.entry_dict_get (PySem.F.args_dict_get_2 _ _) (meets_dict_get (SK w) d (k:=x) (key:=.str x tk) (J0p _) lo) (az _ D.mapOf ?_))
 have F:=hE.findW (x:=x)
 cases qe:iV x as with
 |some ev=>
  rw[qe] at F hP
  refine e1_2 F λv f1 f2=> ?_
  clear F
  refine (f1).symm▸?_
  exact hQ _ _ st h _ ⟨_,_,_,_,Jj (.cons f2 zs)⟩ hP
 |none=>
  rw[qe] at F hP
  refine (F).symm▸?_
  exact hQ _ _ st h _ ⟨_,_,_,_,Jj (.cons (.pv .none) zs)⟩ hP
def Do (n:J23):Bool:=["enumerate","zip","dict_itemiterator","dict_reverseitemiterator","odict_iterator","itertools.zip_longest","itertools.pairwise"].contains n
set_option tactic.hygienic true in
theorem uF {w:World}{A:J7}{tgt:Expr}{I:Addr}{v:Value}{o:Obj}{n:J23}{s:J1}{Q:Unit->J1->Prop}{E:Value->J1->Prop}(ho:Jr I=some o) (hc:J9B=.type n) (hn:Do n=false) (hQ:Q () s):
  ae (model prog0 w) A (J2J tgt (.ref I) v) Q E s:=by
 have fin:∀a,JF (model prog0 w) A (load I>>=λo=>match J9B,J2v with
  | .type n,.fields vs=>if ["enumerate","zip","dict_itemiterator","dict_reverseitemiterator","odict_iterator","itertools.zip_longest","itertools.pairwise"].contains n&&vs[0]? ==some (J3y a) then (do rule "for.unpacks-the-owned-tuple";JGn I 0 .none) else pure ()
  |_,_=>pure ()) Q E s:=λa=>by
  refine kB (J2d ho (kq ?_))
  have hn':["enumerate","zip","dict_itemiterator","dict_reverseitemiterator","odict_iterator","itertools.zip_longest","itertools.pairwise"].contains n=false:=hn
  refine (hc).symm▸?_
  have e:∀d:Data,(match J7e n,d with
   | .type n,.fields vs=>if ["enumerate","zip","dict_itemiterator","dict_reverseitemiterator","odict_iterator","itertools.zip_longest","itertools.pairwise"].contains n&&vs[0]? ==some (J3y a) then (do rule "for.unpacks-the-owned-tuple";JGn I 0 .none) else pure ()
   |_,_=>pure ():J1M Unit)=pure ():=λd=>by
   cases d with
   |fields vs=>exact JL (by rw[hn',Bool.false_and];exact J1U)
   |_=>rfl
  refine (e _).symm▸?_
  exact JI hQ
 have go:J2J tgt (.ref I) v=pure ()∨∃a,J2J tgt (.ref I) v=J2J (.List [] ⟨0,0,0,0⟩) (.ref I) (.ref a):=by
  cases tgt with
  |Tuple=>cases v<;>first|exact .inl rfl|exact .inr ⟨_,rfl⟩
  |List=>cases v<;>first|exact .inl rfl|exact .inr ⟨_,rfl⟩
  |_=>exact .inl rfl
 refine J3a go (λe=> ?_) λe=> ?_
 ·rw[e];exact af hQ
 ·refine e1_1 e λa e=> ?_
  rw[e];exact av (fin a)
def vt1 (vc:EV->VC Unit):List PV->VC Unit:=λvals st P=>match vals with
 |[p]=>vc (.pv p) st P
 |_=>False
section
variable {w:World}{Γ:Nm}{X:Fx}{st:St}{T:List EV}{vs:List Value}{h h':Heap}{N:Led}{own:Own}{ρ:List Addr}{m:Str->Option Value}
theorem aA.stepIt {I:Addr}{o o':Obj}{e:EV}{v:Value}(R:aA w Γ (Jp [(I,o)]) st T vs h N own ρ m) (hs:J0m I h h') (ho:JW I=some o') (hv:EVR (aI JA N own) ρ e v):Rel w Γ (Jp [(I,o')]) st (e::T) (v::vs) h':=
 Rel.turnHeld (hs:=[(I,o)]) (hs':=[(I,o')]) ⟨N,own,ρ,m,Jj (T':=e::T) (vs':=v::vs) (.cons hv J62)⟩ rfl (λp hp=>by obtain rfl:=JQ hp;exact ho) (λb ob hb q=>hs.extBut b ob (λz=>hb (by rw[z];exact JB)) q)
theorem aA.heldIt {I:Addr}{o:Obj}(R:aA w Γ (Jp [(I,o)]) st T vs h N own ρ m):JN I=some o:=(JH _ (J4k (I,o) JB).1).1
end
theorem iP {w:World}{Γ:Nm}{n:Nat}{tgt:Expr}{vc:EV->VC Unit}(ht:cO Γ n tgt vc) {I:Addr}{cls:J23}(hcl:Do cls=false) {items:List PV}{src:List EV}{srcv:List Value}{keep:St->Prop}{IsIt:Nat->Obj->Prop}(hcls:∀k o,IsIt k o->J9B=.type cls)
  (item:∀{A:J7}{X:Fx}{st:St}{T:List EV}{vs:List Value}{s:J1}{h:Heap}{t k:Nat}{o:Obj}{p:PV}{N:Led}{own:Own}{ρ:List Addr}{m:Str->Option Value},BOk w X->IsIt k o->items[k]? =some p->keep st->aA w Γ X st (src++T) (srcv++vs) h N own ρ m->JN I=some o->
   ∀{Q:Option Value->J1->Prop}{E:Value->J1->Prop},(∀v h' t' o',J0m I h h'->JW I=some o'->IsIt (k+1) o'->PR (aI JA N own) p v->Q (some v) (At s h' t'))->JF (model prog0 w) A (J70 (.ref I)) Q E (At s h t))
  (stop:∀{A:J7}{X:Fx}{st:St}{T:List EV}{vs:List Value}{s:J1}{h:Heap}{t:Nat}{o:Obj}{N:Led}{own:Own}{ρ:List Addr}{m:Str->Option Value},BOk w X->J3v=none->IsIt J0Q o->keep st->aA w Γ X st (src++T) (srcv++vs) h N own ρ m->JN I=some o->
   ∀{Q:Option Value->J1->Prop}{E:Value->J1->Prop},(∀h' t',J8x I h h'->Q none (At s h' t'))->JF (model prog0 w) A (J70 (.ref I)) Q E (At s h t))
  (self:∀{A:J7}{s:J1}{h:Heap}{t:Nat}{o:Obj},IsIt 0 o->JN I=some o->∀{Q E:Value->J1->Prop},Q (.ref I) (At s h t)->JF (model prog0 w) A (J6P (.ref I)) Q E (At s h t)):
  je w Γ n tgt (vt1 vc) (.ref I) (items.map λp=>[p]) src srcv keep (λk hs=>∃o,hs=[(I,o)]/\IsIt k o) where
 next:=by
  rintro A env X C k hs vals ⟨o,rfl,hI⟩ hk st T vs s h t Q E P ⟨N,own,ρ,m,R⟩ hkeep hv hQ
  replace hk:=(JR)▸hk
  refine e1_2 (Jw hk) λp hp er0=> ?_
  clear hk
  obtain rfl:=er0
  refine av (item (J68 [(I,o)]) hI hp hkeep R R.heldIt λv h' t' o' hs' ho' hI' hpv=> ?_)
  refine uF (s:=At s h' t') ho' (hcls _ _ hI') hcl ?_
  refine ht (JEr [(I,o')]) (R.stepIt hs' ho' (.pv hpv)) hv λst' h'' t'' H' hP=>hQ _ st' h'' t'' (az o' rfl hI') H' hP
 self:=by
  intro A X hs hq9 st T vs s h t Q E H hQ
  refine e1_2 hq9 λo er0 hI=> ?_
  clear hq9
  obtain rfl:=er0
  exact av (self hI (H.heldGet JB) hQ)
 stop:=by
  rintro A env X C hs ⟨o,rfl,hI⟩ st T vs s h t Q E ⟨N,own,ρ,m,R⟩ hkeep hQ
  rw[J6] at hI
  refine av (stop (J68 [(I,o)]) C.hh hI hkeep R R.heldIt λh' t' hx=>hQ h' t' ?_)
  exact JGM (hs:=[(I,o)]) ⟨N,own,ρ,m,R⟩ λb ob hb e=>hx b ob (λz=>hb (by rw[z];exact JB)) e
theorem Rel.holdOne {w:World}{Γ:Nm}{X:Fx}{st:St}{T:List EV}{vs:List Value}{h:Heap}(H:Rel w Γ X st T vs h) (o:Obj) (ho:J71=false):Rel w Γ (Jp [(JM,o)]) st T vs (J2R o):=
 JEk (hs':=[(JM,o)]) (by simp [addrs]) (λp hp=>by obtain rfl:=JQ hp;exact Jb _) (λp hp=>by obtain rfl:=JQ hp;exact J09 _ ho) λb ob e=>JY _ e
def bt (ps:List PV):List (List PV):=JC9 λp=>[p]
def rngN (a b c:Int):Nat:=(J0X a b c).toNat
def cI (a b c:Int):List PV:=(JZ (rngN a b c)).map λk:Nat=>.int (a+(k:Int)*c)
def dY (a b c:Int):Bool:=decide (-1000000000<=a/\a<=1000000000/\-1000000000<=b/\b<=1000000000/\0<c/\c<=1000000000)
def aS (e:EV) (st:St):Option (List PV):=match e with
 | .pv (.tup ps)=>some ps
 | .pv (.bytes b)=>some (J52 λc=>.int J28)
 | .pv (.str x)=>if JAP (·<128) then some (J7u λc=>.str ⟨#[c]⟩) else none
 | .pv (.rng a b c)=>if dY a b c then some (cI a b c) else none
 |e=>bF e st
def vN (ve:VC EV):VC (List (List PV)×(St->Prop)):=λst P=>ve st λe st1=>aj (aS e st1) λps=>P (bt ps,λst'=>aS e st'=some ps) st1
theorem Et {w:World}{Γ:Nm}{n:Nat}{tgt:Expr}{vc:EV->VC Unit}(ht:cO Γ n tgt vc) {I l:Addr}(hne:l≠I) {e:EV}{ps:List PV}(hl:∀st',aS e st'=some ps->bF e st'=some ps):
  je w Γ n tgt (vt1 vc) (.ref I) (bt ps) [e] [.ref l] (λst'=>aS e st'=some ps) (λk hs=>∃o,hs=[(I,o)]/\(J9B=.type "list_iterator"/\J2v=.fields #[.ref l,.int k 0])):=by
 refine iP (cls:="list_iterator") ht (by decide) (λk o h=>h.1) ?_ ?_ ?_
 ·intro A X st T vs s h t k o p N own ρ m B hI hp hk R ho Q E hQ
  refine e0_2 Jg λz zs=> ?_
  refine e3_3 (J2j B z (hl _ hk)) λa items nn e1 g1 g2=> ?_
  cases e1
  refine e1_2 (J9W hp) λv y1 y2=> ?_
  refine wpAny_pyNext_list_item (s:=At s h t) (az o ho hI) (aO _ g1 rfl _ rfl) (by simpa using y1) λh' hit hs=> ?_
  refine e1_2 hit λo' z1 z2=> ?_
  clear hit
  exact hQ v h' t o' hs z1 z2 y2
 ·intro A X st T vs s h t o N own ρ m B hh hI hk R ho Q E hQ
  refine e0_2 Jg λz zs=> ?_
  refine e3_3 (J2j B z (hl _ hk)) λa items nn e1 g1 g2=> ?_
  cases e1
  have:=J72
  exact wpAny_pyNext_list_end (s:=At s h t) hh (az o ho hI) (aO _ g1 rfl _ rfl) (by rw[this];simp) λh' hx=>hQ h' t hx
 ·intro A s h t o hI ho Q E hQ
  exact wpAny_pyIter_listiter (s:=At s h t) (az o ho hI) hQ
theorem E4 {w:World}{Γ:Nm}{n:Nat}{tgt:Expr}{vc:EV->VC Unit}(ht:cO Γ n tgt vc) {I l:Addr}(hne:l≠I) {ps:List PV}:
  je w Γ n tgt (vt1 vc) (.ref I) (bt ps) [.pv (.tup ps)] [.ref l] (λst'=>aS (.pv (.tup ps)) st'=some ps) (λk hs=>∃o,hs=[(I,o)]/\(J9B=.type "tuple_iterator"/\J2v=.fields #[.ref l,.int k 0])):=by
 refine iP (cls:="tuple_iterator") ht (by decide) (λk o h=>h.1) ?_ ?_ ?_
 ·intro A X st T vs s h t k o p N own ρ m B hI hp hk R ho Q E hQ
  cases J62 with
  |cons z zs=>cases z with
   |pv z=>cases z with
    |tup f g2=>
     refine e1_2 (J9W hp) λv y1 y2=> ?_
     refine wpAny_pyNext_tuple_item (s:=At s h t) (az o ho hI) (aO _ (J29 B f) rfl _ rfl) (by simpa using y1) λh' hit hs=> ?_
     refine e1_2 hit λo' z1 z2=> ?_
     clear hit
     exact hQ v h' t o' hs z1 z2 y2
 ·intro A X st T vs s h t o N own ρ m B hh hI hk R ho Q E hQ
  cases J62 with
  |cons z zs=>cases z with
   |pv z=>cases z with
    |tup f g2=>
     have:=J72
     exact wpAny_pyNext_tuple_end (s:=At s h t) hh (az o ho hI) (aO _ (J29 B f) rfl _ rfl) (by rw[this];simp) λh' hx=>hQ h' t hx
 ·intro A s h t o hI ho Q E hQ
  exact wpAny_pyIter_tupleiter (s:=At s h t) (az o ho hI) hQ
theorem C0 {w:World}{Γ:Nm}{n:Nat}{tgt:Expr}{vc:EV->VC Unit}(ht:cO Γ n tgt vc) {I:Addr}{b:List UInt8}{arr:Array UInt8}{tb:Tok}(hb:J9d=b) {keep:St->Prop}:
  je w Γ n tgt (vt1 vc) (.ref I) (bt (J52 λc=>.int J28)) [] [] keep (λk hs=>∃o,hs=[(I,o)]/\(J9B=.type "bytes_iterator"/\J2v=.fields #[.bytes arr tb,.int k 0])):=by
 refine iP (cls:="bytes_iterator") ht (by decide) (λk o h=>h.1) ?_ ?_ ?_
 ·intro A X st T vs s h t k o p N own ρ m B hI hp hk R ho Q E hQ
  rw[JR] at hp
  refine e1_2 (Jw hp) λc hc er0=> ?_
  clear hp
  obtain rfl:=er0
  refine KBw.next_item (s:=At s h t) (az o ho hI) (c:=c) (by rw[<- hb] at hc;simpa using hc) λh' hit hs=> ?_
  refine e1_2 hit λo' z1 z2=> ?_
  clear hit
  exact hQ _ h' _ o' hs z1 z2 (.int _ _)
 ·intro A X st T vs s h t o N own ρ m B hh hI hk R ho Q E hQ
  exact KBw.next_end (s:=At s h t) hh (az o ho hI) (by simp [<- hb]) λh' hx=>hQ h' t hx
 ·intro A s h t o hI ho Q E hQ
  exact KBw.pyIter_self (s:=At s h t) (az o ho hI) hQ
theorem Fb {w:World}{Γ:Nm}{n:Nat}{tgt:Expr}{vc:EV->VC Unit}(ht:cO Γ n tgt vc) {I:Addr}{x:Str}{tx:Tok}{keep:St->Prop}:
  je w Γ n tgt (vt1 vc) (.ref I) (bt (J7u λc=>.str ⟨#[c]⟩)) [] [] keep (λk hs=>∃o,hs=[(I,o)]/\(J9B=.type "str_ascii_iterator"/\J2v=.fields #[.str x tx,.int k 0])):=by
 refine iP (cls:="str_ascii_iterator") ht (by decide) (λk o h=>h.1) ?_ ?_ ?_
 ·intro A X st T vs s h t k o p N own ρ m B hI hp hk R ho Q E hQ
  rw[JR] at hp
  refine e1_2 (Jw hp) λc hc er0=> ?_
  clear hp
  obtain rfl:=er0
  refine wpAny_pyNext_ascii_item (s:=At s h t) (az o ho hI) (c:=c) (by simpa using hc) λh' hit hs=> ?_
  refine e1_2 hit λo' z1 z2=> ?_
  clear hit
  exact hQ _ h' _ o' hs z1 z2 (.str _ _)
 ·intro A X st T vs s h t o N own ρ m B hh hI hk R ho Q E hQ
  exact wpAny_pyNext_ascii_end (s:=At s h t) hh (az o ho hI) (by simp) λh' hx=>hQ h' t hx
 ·intro A s h t o hI ho Q E hQ
  exact wpAny_pyIter_striter_ascii (s:=At s h t) (az o ho hI) hQ
theorem Cf {w:World}{Γ:Nm}{n:Nat}{tgt:Expr}{vc:EV->VC Unit}(ht:cO Γ n tgt vc) {I:Addr}{a b c:Int}{keep:St->Prop}:
  je w Γ n tgt (vt1 vc) (.ref I) (bt (cI a b c)) [] [] keep (λk hs=>∃o,hs=[(I,o)]/\o=({ cls:=.type "range_iterator",dict:=none,data:=.fields #[J3y (a+(k:Int)*c),J3y ((rngN a b c:Int) - k),J3y c],slots:= #[] }:Obj)):=by
 refine iP (cls:="range_iterator") ht (by decide) (λk o h=>by rw[h]) ?_ ?_ ?_
 ·rintro A X st T vs s h t k o p N own ρ m B rfl hp hk R ho Q E hQ
  unfold cI at hp
  rw[JR] at hp
  refine e1_2 (Jw hp) λj hj er0=> ?_
  obtain rfl:=er0
  refine e1_1 (J04 hj) λhl hj=> ?_
  rw[J7F] at hj
  clear hp
  subst hj
  have e1:a+((k+1:Nat):Int)*c=a+(k:Int)*c+c:=by push_cast;rw[J8v,J5V,J7I]
  rw[J0I] at hl
  have e2:(rngN a b c:Int) - ((k+1:Nat):Int)=(rngN a b c:Int) - (k:Int) - 1:=by push_cast;exact z20 0x11181e0eaa181e90ea20
  refine wpAny_pyNext_range_item (s:=At s h t) ho (by exact z20 0x111e0ea0810191 hl) λh' hit hs=>hQ _ h' _ _ hs hit ?_ (.int _ _)
  rw[e1,e2]
 ·rintro A X st T vs s h t o N own ρ m B hh rfl hk R ho Q E hQ
  refine wpAny_pyNext_range_end (s:=At s h t) hh ho ?_ λh' hx=>hQ h' t hx
  unfold cI
  rw[J6,J0I]
  exact z10 0x1080e0ea00
 ·rintro A s h t o rfl ho Q E hQ
  exact wpAny_pyIter_rangeiter (s:=At s h t) ho hQ
theorem yx {a b c:Int}(h:dY a b c=true):JBz a b c=true/\((rngN a b c:Nat):Int)=J0X a b c:=by
 have:=J05 h
 have e:0<=J0X a b c/\J0X a b c<=2000000001:=by
  unfold J0X
  rw[JC (by exact z01 0x11008100811 this.2.2.2.2.1)]
  split
  ·have h1:0<=(b - a - 1) / c:=J4t (by omega) (by exact z01 0x11008000811 this.2.2.2.2.1)
   have h2:(b - a - 1) / c<=b - a - 1:=JDS _ (by omega)
   exact z03 0x1101110100773594018f818090180908041812aa0000803b9aca008f82013b9aca008f8d04 this.1 this.2.2.2.1 h1 h2
  ·omega
 refine⟨?_,by unfold rngN;exact z01 0x100101001100101010000e20700802 e.1 fT⟩
 delta JBz Builtin.Range.rangeFitsLong
 simp only [J1r,J1v,Bool.or_eq_true]
 refine⟨⟨⟨⟨by exact z01 0x110101080000000000000000f8010080000000000000000f8d043b9aca008f80003b9aca008f8d02 this.1 this.2.1,by exact z01 0x110101080000000000000000f8010080000000000000000f8d043b9aca008f80003b9aca008f8d02 this.2.2.1 this.2.2.2.1⟩,by exact z01 0x110101080000000000000000f8010080000000000000000f8d043b9aca008f80000812 this.2.2.2.2.1 this.2.2.2.2.2⟩,by exact z01 0x110101080000000000000000f8010080000000000000000f8d04773594018f80000802 e.1 e.2⟩,.inr ?_⟩
 refine (JC (by exact z01 0x11008100811 this.2.2.2.2.1)).trans ?_
 simp only [J1r,J1v]
 exact z02 0x1101010101080000000000000000f8181a091181a09080000000000000000f8d043b9aca008f81010813b9aca008f80003b9aca008f8d04 this.2.2.1 this.2.2.2.1 this.2.2.2.2.1 this.2.2.2.2.2
inductive o9 (st:St):EV->List PV->Prop
 |tup (ps:List PV):o9 st (.pv (.tup ps)) ps
 |bytes (b:List UInt8):o9 st (.pv (.bytes b)) (J52 λc=>.int J28)
 |str (x:Str) (h:JAP (·<128)=true):o9 st (.pv (.str x)) (J7u λc=>.str ⟨#[c]⟩)
 |rng (a b c:Int) (h:dY a b c=true):o9 st (.pv (.rng a b c)) (cI a b c)
 |lst (e:EV) (ps:List PV) (h:∀st',aS e st'=bF e st') (q:bF e st=some ps):o9 st e ps
theorem xf {e:EV}{st:St}{ps:List PV}(q:aS e st=some ps):o9 st e ps:=by
 cases e with
 |pv p=>cases p with
  |tup=>cases q;exact .tup _
  |bytes b=>cases q;exact .bytes _
  |str x=>
   refine e0_2 (J3x q) λh q=> ?_
   cases q;exact .str _ h
  |rng a b c=>
   refine e0_2 (J3x q) λh q=> ?_
   cases q;exact .rng _ _ _ h
  |_=>exact .lst _ _ (λy=>rfl) q
 |_=>exact .lst _ _ (λy=>rfl) q
theorem tX {Γ Γt:Nm}{n:Nat}{iter tgt:Expr}{ve:VC EV}{vc:EV->VC Unit}(he:Sem Γ n iter ve) (ht:cO Γt n tgt vc):dQ Γ Γt n iter tgt (vt1 vc) (vN ve):=by
 intro w A env X C st T vs s h t Q E P H hv hQ
 refine he C H hv λe v st1 h1 t1 H1 hv1=> ?_
 refine J9 H1 λN own ρ m R=> ?_
 have asList:∀{ps},(∀st',aS e st'=bF e st')->bF e st1=some ps->P (bt ps,λst'=>aS e st'=some ps) st1->ae (model prog0 w) A (J6P v) Q E (At s h1 t1):=by
  intro ps hh q hP
  refine e0_2 Jg λz zs=> ?_
  refine e3_3 (J2j J1q z q) λa items nn er0 g1 g2=> ?_
  clear R hv1 z
  obtain rfl:=er0
  have hlt:=Jo g1
  exact av (JCZ (s:=At s h1 t1) (aO _ g1 rfl _ rfl) (hQ _ _ _ [e] [.ref a] _ _ st1 _ t1 rfl (Et ht (J0O hlt) λst' q=>(hh st').symm.trans q) ⟨_,rfl,rfl,rfl⟩ (H1.holdOne _ rfl) hP))
 refine e1_2 (ah hv1) λps q hv1=> ?_
 cases xf q with
 |tup=>
  refine e0_2 Jg λz zs=> ?_
  refine e3_3 J58 λy y y er1 f g2=> ?_
  clear asList q z
  obtain rfl:=er1
  have g1:=J29 J1q f
  have hlt:=Jo g1
  exact av (JC1 (s:=At s h1 t1) (aO _ g1 rfl _ rfl) (hQ _ _ _ [.pv (.tup ps)] [.ref _] _ _ st1 _ t1 rfl (E4 ht (J0O hlt)) ⟨_,rfl,rfl,rfl⟩ (H1.holdOne _ rfl) hv1))
 |bytes=>
  refine e0_2 Jg λz zs=> ?_
  refine e2_2 J58 λy tb er2 hb=> ?_
  refine J3P▸?_
  exact av (JDP (s:=At s h1 t1) (hQ _ _ _ [] [] _ _ st1 _ t1 rfl (C0 ht hb) ⟨_,rfl,rfl,rfl⟩ (J9M _ rfl) hv1))
 |str x ha=>
  refine e0_2 Jg λz zs=> ?_
  refine e1_1 J58 λtx er3=> ?_
  refine J4X▸?_
  exact av (JC2 (s:=At s h1 t1) ha (hQ _ _ _ [] [] _ _ st1 _ t1 rfl (Fb ht) ⟨_,rfl,rfl,rfl⟩ (J9M _ rfl) hv1))
 |rng a b c hsm=>
  refine e0_2 Jg λz zs=> ?_
  refine e4_2 J58 λy y y y er4 f=> ?_
  refine JFY▸?_
  refine e0_2 (yx hsm) λe1 e2=> ?_
  exact av (wpAny_pyIter_range (s:=At s h1 t1) (J29 J1q f) e1 (hQ _ _ _ [] [] _ _ st1 _ t1 rfl (Cf ht) (az _ rfl (by simp [J3y,e2])) (J9M _ rfl) hv1))
 |lst _ _ h q=>exact asList h q hv1
def FW:List EV->Option Int
 |[a]=>bA a
 |_=>none
def p3 {α:Type}(p:EV->EV->EV->VC α) (as:List EV):VC α:=λst P=>match as with
 |[a,b,c]=>p a b c st P
 |_=>False
theorem EB {as:List EV}{x:Int}(q:FW as=some x):as=[.pv (.int x)]:=by
 cases as with
 |nil=>cases q
 |cons a r=>cases r with
  |nil=>exact JD (λe=>[e]) (i9 q)
  |cons=>cases q
theorem GN {α:Type}{p:EV->EV->EV->VC α}{as:List EV}{st:St}{P:α->St->Prop}(h:p3 p as st P):∃a b c,as=[a,b,c]/\p a b c st P:=by
 cases as with
 |nil=>exact JX
 |cons a r=>cases r with
  |nil=>exact JX
  |cons b r=>cases r with
   |nil=>exact JX
   |cons c r=>cases r with
    |nil=>exact (pZ a b c rfl h)
    |cons=>exact JX
def Ea (as:List EV):VC EV:=λst P=>bj (FW as) (λb=>P (.pv (.rng 0 b 1)) st) (p3 (λa b c st P=>aj (bA a) λx=>aj (bA b) λy=>aj (bA c) λz=>(0<z/\z<1000000000)/\P (.pv (.rng x y z)) st) as st P)
theorem u5 {n:Nat}:bh n (.type "range") Ea:=by
 intro w A Γ X B AO st T vs args ws s h t Q E P hl H hv hQ
 refine J9 H λN own ρ m R=> ?_
 refine e0_2 (J1N hl J62) λq1 q2=> ?_
 have R':=Jj q2
 refine J3a (aX hv) (λhv=> ?_) λhv=> ?_
 ·refine e1_2 (ah hv) λb q hv=> ?_
  obtain rfl:=EB q
  refine e1_1 (Aj hl) λv er1=> ?_
  obtain rfl:=er1
  refine e1_1 q1.inv.1.pvI.inv λtb er1=> ?_
  refine J0y▸?_
  exact av (call_range_1 (s:=At s h t) (hQ _ _ st _ _ (R'.newFz0 _ rfl λfz' mz q=>.rng q) hv))
 ·refine e3_2 (GN hv) λea eb ec er1 hv=> ?_
  clear H R hl
  obtain rfl:=er1
  refine e1_2 (ah hv) λx w1 hv=> ?_
  refine e1_2 (ah hv) λy w2 hv=> ?_
  refine e1_2 (ah hv) λz w3 hv9=> ?_
  obtain rfl:=i9 w1
  obtain rfl:=i9 w2
  obtain rfl:=i9 w3
  refine e2_3 q1.invL λva us er1 za q3=> ?_
  refine J0y▸?_
  refine e2_3 q3.invL λvb us2 er1 zb q4=> ?_
  refine J0y▸?_
  refine e2_3 q4.invL λvc us3 er1 zc q5=> ?_
  refine J0y▸?_
  refine e1_1 za.pvI.inv λta er1=> ?_
  refine J0y▸?_
  refine e1_1 zb.pvI.inv λtb er1=> ?_
  refine J0y▸?_
  refine e1_1 zc.pvI.inv λtc er1=> ?_
  refine J0y▸?_
  cases q5
  exact av (call_range_3 (s:=At s h t) (by exact z01 0x110802300811 hv9.1.1) (hQ _ _ st _ _ (R'.newFz0 _ rfl λfz' mz q=>.rng q) hv9.2) (.inl (JAL (by exact z11 0x10001100110400000008f80910f3b9aca008f81110813 hv9.1.1 hv9.1.2 fA))))
def vt2 (vc:EV->VC Unit):List PV->VC Unit:=λvals=>vc (.pv (.tup vals))
section
variable {w:World}{Γ:Nm}{X:Fx}{st:St}{T:List EV}{vs:List Value}{h h':Heap}{N:Led}{own:Own}{ρ:List Addr}{m:Str->Option Value}{hs hs':Led}
theorem aA.addFz {a:Addr}{o:Obj}(R:aA w Γ X st T vs h N own ρ m) (ha:J77<=a) (hL:a≠X.L) (hf:∀p∈N,p.1≠a) (hg:JN a=some o) {p:PV}{v:Value}(q:∀fz':FzP,(∀a o,aI JA N own a o->fz' a o)->fz' a o->PR fz' p v):Rel w Γ X st (.pv p::T) (v::vs) h:=by
 have E':=J4C (own:=own) (o:=o) (l:=.fz) hf
 have R':=R.add E' JF7 (λp hp=>by
  rcases Jf hp with rfl|hp
  ·refine⟨hg,hL,?_⟩
   cases z:J1s a with
   |none=>rfl
   |some o'=>exact absurd (Jo z) (J6V ha)
  ·exact JH p hp)
 exact⟨_,_,_,_,J1e (.cons (.pv (q _ JBx (.inr ⟨JB,br⟩))) J7o)⟩
theorem aA.stepIt2 (R:aA w Γ (Jp hs) st T vs h N own ρ m) (ha:addrs hs'=addrs hs) (hg:∀p∈hs',JW p.1=some p.2) (k:∀b o,b∉addrs hs->JN b=some o->JW b=some o)
  {a:Addr}{ws:Array Value}{nn:Nat}{vals:List PV}(h1:JM<=a) (h2:a∉addrs hs) (h3:JW a=some (kL ws nn)) (hv:PRs (aI JA N own) vals ws.toList):Rel w Γ (Jp hs') st (.pv (.tup vals)::T) (.ref a::vs) h':=by
 have fr:=J8k h1
 have hsz:J77<=a:=by
  rcases J1Y a J77 with q|q
  ·have hL:J77<=X.L:=J6J
   have:X.L<JM:=by
    refine e3_2 J8l λoL es ep hL' r=> ?_
    exact Jo hL'
   exact absurd (J0d q (JJ hL (JJ (J2y this) h1))) (J0V _)
  ·exact q
 have R1:=R.reheld (hs':=hs') (h':=h') (by rw[ha];have:=J7y;rw[Ji] at this;exact this) (λp hp=>.inl (by rw[<- ha];exact J0n hp)) hg k
 have mz:∀b o,aI JA N own b o->aI JA (hs'++ledNo N (addrs hs)) (λa=>if a∈addrs hs' then .held else own a) b o:=by
  rintro b o (q|⟨q1,q2⟩)
  ·exact .inl q
  ·have hb:b∉addrs hs:=λz=>by
    refine e1_2 (Ja z) λp hp er0=> ?_
    clear q1 z
    obtain rfl:=er0
    rw[(J4k p (J06 _ hp)).2] at q2;cases q2
   exact .inr ⟨J0A _ (J9a ⟨q1,hb⟩),(JL (by rw[ha];exact hb)).trans q2⟩
 refine R1.addFz (p:=.tup vals) (a:=a) (o:=kL ws nn) hsz fr.2.1 (λp hp=> ?_) h3 λfz' mz' q=>.tup q (J2o (λa o z=>mz' a o (mz a o z)) hv)
 rcases J08 hp with q|q
 ·exact λe=>h2 (by rw[<- ha,<- e];exact J0n q)
 ·exact fr.2.2 p (bL.mp q).1
end
abbrev G6 (w:World) (A:J7) (it:Value) (elts:List Expr) (kk:Nat) (pos:Pos) (Q:Value->J1->Prop) (E:Value->J1->Prop) (s:J1):Prop:=
 JF (model prog0 w) A (J70 it) (λr s1a=>match r with |none=>False|some v=>JF (model prog0 w) A (J2J (.Tuple elts kk pos) it v) (λy s2a=>Q v s2a) E s1a) E s
theorem k8 {w:World}{Γ:Nm}{n:Nat}{elts:List Expr}{kk:Nat}{pos:Pos}{vc:EV->VC Unit}(ht:cO Γ n (.Tuple elts kk pos) vc) {it:Value}{as:List Addr}{items:List (List PV)}{src:List EV}{srcv:List Value}{keep:St->Prop}{IsIt:Nat->Led->Prop}
  (had:∀k hs,IsIt k hs->addrs hs=as)
  (item:∀{A:J7}{X:Fx}{st:St}{T:List EV}{vs:List Value}{s:J1}{h:Heap}{t k:Nat}{hs:Led}{vals:List PV}{N:Led}{own:Own}{ρ:List Addr}{m:Str->Option Value},BOk w X->J3v=none->IsIt k hs->items[k]? =some vals->keep st->aA w Γ X st (src++T) (srcv++vs) h N own ρ m->(∀p∈hs,JN p.1=some p.2)->
   ∀{Q:Value->J1->Prop}{E:Value->J1->Prop},(∀a ws nn h' t' hs',(∀b o,b∉as->JN b=some o->JW b=some o)->JM<=a->a∉as->JW a=some (kL ws nn)->IsIt (k+1) hs'->(∀p∈hs',JW p.1=some p.2)->PRs (aI JA N own) vals ws.toList->Q (.ref a) (At s h' t'))->
    G6 w A it elts kk pos Q E (At s h t))
  (stop:∀{A:J7}{X:Fx}{st:St}{T:List EV}{vs:List Value}{s:J1}{h:Heap}{t:Nat}{hs:Led}{N:Led}{own:Own}{ρ:List Addr}{m:Str->Option Value},BOk w X->J3v=none->IsIt J0Q hs->keep st->aA w Γ X st (src++T) (srcv++vs) h N own ρ m->(∀p∈hs,JN p.1=some p.2)->
   ∀{Q:Option Value->J1->Prop}{E:Value->J1->Prop},(∀h' t',(∀b o,b∉as->JN b=some o->JW b=some o)->Q none (At s h' t'))->JF (model prog0 w) A (J70 it) Q E (At s h t))
  (self:∀{A:J7}{s:J1}{h:Heap}{t:Nat}{hs:Led},IsIt 0 hs->(∀p∈hs,JN p.1=some p.2)->∀{Q E:Value->J1->Prop},Q it (At s h t)->JF (model prog0 w) A (J6P it) Q E (At s h t)):
  je w Γ n (.Tuple elts kk pos) (vt2 vc) it items src srcv keep IsIt where
 next:=by
  rintro A env X C k hs vals hI hk st T vs s h t Q E P ⟨N,own,ρ,m,R⟩ hkeep hv hQ
  have hg:∀p∈hs,JN p.1=some p.2:=λp hp=>(JH _ (J4k p (J06 _ hp)).1).1
  refine av (PySem.wpAny_mono (item (s:=s) (t:=t) (J68 hs) C.hh hI hk hkeep R hg (Q:=λv s2a=>ae (model prog0 w) A (J5d (.Tuple elts kk pos) env v) Q E s2a) (E:=E) λa ws nn h' t' hs' k1 k2 k3 k4 hI' hg' hp=> ?_) (λr s1a hr=> ?_) λy y z=>z)
  ·rw[<- had _ _ hI] at k1 k3
   exact ht (JEr hs') (R.stepIt2 ((had _ _ hI').trans (had _ _ hI).symm) hg' k1 k2 k3 k4 hp) hv λst' h'' t'' H' hP=>hQ hs' st' h'' t'' hI' H' hP
  ·cases r with
   |none=>exact hr
   |some v=>exact av hr
 self:=by
  intro A X hs hI st T vs s h t Q E H hQ
  exact av (self hI (λp hp=>H.heldGet hp) hQ)
 stop:=by
  rintro A env X C hs hI st T vs s h t Q E ⟨N,own,ρ,m,R⟩ hkeep hQ
  have hg:∀p∈hs,JN p.1=some p.2:=λp hp=>(JH _ (J4k p (J06 _ hp)).1).1
  refine av (stop (J68 hs) C.hh hI hkeep R hg λh' t' k=>hQ h' t' ?_)
  rw[<- had _ _ hI] at k
  exact JGM ⟨N,own,ρ,m,R⟩ k
theorem zt {α:Type}{M:Model}{A:J7}{x:α}{Q:α->J1->Prop}{E:Value->J1->Prop}{s:J1}(h:∀b,Q b s):JF M A (pure x) Q E s:=JI (h x)
abbrev d9 (it:Addr) (i:Int) (old:Value):Obj:={ cls:=.type "enumerate",dict:=none,data:=.fields #[.none,.bool false,.ref it,J3y i,.none,old],slots:= #[] }
set_option tactic.hygienic true in
theorem sx {w:World}{A:J7}{E Q:Value->J1->Prop}{s:J1}{v:Value}{o:Obj}(ho:J71=false) (hit:∀{A':J7}{s':J1}{Q' E':Value->J1->Prop},J7X=JG->Q' (.ref s'.heap.objs.size) { s' with heap:=s'.heap.push o }->JF (model prog0 w) A' (J6P v) Q' E' s')
  (h:Q (.ref (JS+1)) { s with heap:=(J0T o).push (d9 JS 0 .none) }):
  JF (model prog0 w) A (call (.type "enumerate") [v]) Q E s:=by
 have hz:(J0T o).objs.size=JS+1:=J10 ..
 refine J9D F.called_enumerate (by decide) (F.typeCall_enumerate_1 _) (F.newCall_enumerate_1 _) (λobj=>JBR obj _) F.entry_enumerate_new
  (S:=λA R s'=>J7X=JG/\R (.ok (.ret (.ref (JS+1)))) { s' with heap:=(J0T o).push (d9 JS 0 .none) }) (.of_wp λA R s' hR=> ?_) ⟨rfl,?_⟩
 ·obtain⟨hp,g,d,tk,os⟩:=s'
  obtain⟨e,hR⟩:=hR
  dsimp only at e
  refine J5x▸?_
  have hsub:=sub_enumerate
  have hit':∀{A':J7}{tk':Nat}{Q' E':Value->J1->Prop},Q' (.ref JS) ⟨J0T o,g,d,tk',os⟩->JF (model prog0 w) A' (J6P v) Q' E' ⟨JG,g,d,tk',os⟩:=λq=>hit rfl q
  have fin:∀{s':J1},s'=⟨(J0T o).push (d9 JS 0 .none),g,d,tk,os⟩->(J0T o).objs.size=JS+1->R (.ok (.ret (.ref (J0T o).objs.size))) s':=λe1 e2=>by rw[e1,e2];exact hR
  wp_walk
  refine PySem.wpAny_stack_any λst=>zt λc=> ?_
  cases c
  ·wp_walk using hit'
   exact (az _ rfl (fin rfl hz))
  ·wp_walk using hit'
   exact (az _ rfl (fin rfl hz))
 ·have:=J09 (J0T o) (o:=d9 JS 0 .none) rfl
  rw[hz] at this
  exact⟨(az _ this rfl),h⟩
section
variable {w:World}{A:Around}{E:Value->Shared->Prop}{s:Shared}
theorem kg {A:J7}(hh:J3v=none) (it:Addr) (b:Array UInt8) (t:Tok):
  Draws prog0 w A it [it] JGK (λi v=>∃c u,b[i]? =some c/\v=.int (J28:Int) u) (λi h=>KBw.IsBytesIter h it b t i) where
 live:=λy y st=>let ⟨o,ho,_⟩:=st;⟨o,ho⟩
 frame:=λy y y st hk=>let ⟨o,ho,r⟩:=st;(az o (hk it (by simp) o ho) r)
 item:=λi s Q E hi hit hQ=>by
  refine e1_3 (id hit) λo ho hc hd=> ?_
  refine kB (J1P (name:=J11 "__next__") (J65 hit) J7H (J1X J7H (J65 hit) JFB ?_ (JFp _)))
  have hx:b[i]? =some b[i]:=by simp [hi]
  show JF _ _ (field (.ref it) 0>>=_) _ _ s
  refine kB (J0Z ho hd (x:=.bytes b t) rfl ?_)
  refine kB (J0Z ho hd (x:=.int i 0) rfl (kB (J0C (a:=b) rfl ?_)))
  refine kq ?_
  simp only [J0l,hx]
  refine kB (J49 ho hd (by simp) (kB (wpAny_mkInt (JI (az _ rfl (JI (hQ _ _ _ (eJ _ _ hx rfl) ?_ (J0f ..))))))))
  exact (i_eaa _ (J1f _ ho (J63 (J2p hd _))) ((J7h ..).trans hc) (by rw[J2p hd];simp [J3y]))
 done:=λs Q E hit hE=>by
  refine e1_3 (id hit) λo ho hc hd=> ?_
  have hx:b[JGK]? =none:=by simp
  refine kB (J1P (name:=J11 "__next__") (J65 hit) J7H (J1X J7H (J65 hit) JFB ?_ (JFp _)))
  show JF _ _ (field (.ref it) 0>>=_) _ _ s
  refine kB (J0Z ho hd (x:=.bytes b t) rfl ?_)
  refine kB (J0Z ho hd (x:=.int (JGK:Nat) 0) rfl (kB (J0C (a:=b) rfl ?_)))
  refine kq ?_
  simp only [J0l,hx]
  refine kB (J2c (kB (J49 ho hd (by simp) ?_)))
  refine kB ?_
  refine kB (J1K ?_ (by size_fits))
  refine kB (m:=JF3 _ _) (J0C (a:=J9f) rfl ?_)
  refine J1K ?_ (by size_fits)
  refine kB (JFI ?_)
  refine (show JFy=none from hh).symm▸?_
  refine kB (JI (JCt ?_))
  exact hE _ _ (((J0f ..).extBut.push _).push _) (az _ (J09 _ rfl) rfl)
theorem tF {it l:Addr}{i:Nat}{items:Array Value}{x:Value}{Q:Value->J1->Prop}(hit:JC6 it l i) (hl:J6N l items) (hx:items[i]? =some x)
  (hQ:∀h',JF2 it l (i+1)->J0m it JG h'->Q x { s with heap:=h' }):JF (model prog0 w) A (Builtin.SmallTypes.nextOf (.ref it)) Q E s:=by
 refine e1_3 (id hit) λo ho hc hd=> ?_
 obtain⟨ol,hol,_,nl,hdl⟩:=hl
 refine kB (J1P (name:=J11 "__next__") hit.typeIs J98 (J1X J98 hit.typeIs F.entry_tuple_iterator_next ?_ (F.args_tuple_iterator_next_1 _)))
 show JF _ _ (field (.ref it) 0>>=_) _ _ s
 refine kB (J0Z ho hd (x:=.ref l) rfl ?_)
 refine kB (J0Z ho hd (x:=.int i 0) rfl (kB (J4A hol hdl ?_)))
 refine kq ?_
 simp only [J0l,hx]
 refine kB (J49 ho hd (by simp) (JI (az x rfl (JI (hQ _ ?_ (J0f ..))))))
 exact (i_eaa _ (J1f _ ho (J63 (J2p hd _))) ((J7h ..).trans hc) (by rw[J2p hd];simp [J3y]))
end
def eO (ps:List PV):List (List PV):=(JZ Jt).map λk:Nat=>[.int (k:Int),JGy k .none]
theorem eN {ps:List PV}{k:Nat}{vals:List PV}(h:(eO ps)[k]? =some vals):∃p,ps[k]? =some p/\vals=[.int (k:Int),p]:=by
 unfold eO at h
 rw[JR] at h
 refine e1_2 (Jw h) λj hj er0=> ?_
 refine Jm▸?_
 refine e1_1 (J04 hj) λhl hj=> ?_
 rw[J7F] at hj
 rw[<- hj]
 rw[J0I] at hl
 exact (az (ps[k]) (Jy hl) (by rw[J02,Jy hl];rfl))
theorem dS {ps:List PV}:(eO ps).length=Jt:=by unfold eO;simp
inductive BI (e it:Addr) (cls:J23) (v:Value) (k:Nat) (hs:Led):Prop
 |mk (old o:_) (e0:hs=[(e,d9 it k old),(it,o)]) (e1:J9B=.type cls/\J2v=.fields #[v,.int (k:Nat) 0])
theorem PRs.two {fz:FzP}{p q:PV}{v u:Value}(h:PR fz p v) (h':PR fz q u):PRs fz [p,q] [v,u]:=.cons h (.cons h' .nil)
theorem sy {w:World}{Γ:Nm}{n:Nat}{elts:List Expr}{kk:Nat}{pos:Pos}{vc:EV->VC Unit}(ht:cO Γ n (.Tuple elts kk pos) vc) {e it l:Addr}(hne:e≠it) {el:EV}{ps:List PV}:
  je w Γ n (.Tuple elts kk pos) (vt2 vc) (.ref e) (eO ps) [el] [.ref l] (λst'=>bF el st'=some ps) (BI e it "list_iterator" (.ref l)):=by
 refine k8 (as:=[e,it]) ht (λk hs ⟨old,o,e1,_⟩=>by rw[e1];rfl) ?_ ?_ ?_
 ·rintro A X st T vs s h t k hs vals N own ρ m B hh ⟨old,o,rfl,c1,c2⟩ hp hk R hg Q E hQ
  refine e1_2 (eN hp) λp hq er0=> ?_
  clear hp
  obtain rfl:=er0
  refine e0_2 Jg λz zs=> ?_
  refine e3_3 (J2j B z hk) λa items nn e1 g1 g2=> ?_
  cases e1
  refine e1_2 (J9W hq) λv y1 y2=> ?_
  have he:=hg (e,d9 it k old) JB
  have hi:=hg (it,o) (Jk _ JB)
  have l2:=Jo hi
  refine wpAny_pyNext_enum_item (s:=At s h t) he (i_eaa o hi c1 c2) (aO _ g1 rfl _ rfl) (by simpa using y1) hne λh' ho hit hT hz hk'=> ?_
  refine e1_2 hit λo' z1 z2=> ?_
  clear hit
  have hae:JM∉[e,it]:=by
   intro z
   rcases Jf z with z|z
   ·exact absurd (Jo he) (by rw[<- z];exact J0V _)
   ·rw[JQ z] at l2;exact absurd l2 (J0V _)
  refine J94 (s:={ At s h t with heap:=h',toks:=t+1 }) ho λh'' he'' hs''=>hQ _ _ 0 h'' _ [(e,d9 it (k+1:Nat) v),(it,o')] ?_ (Jb _) hae (J2w _ _ (λz=>hae (by rw[z];exact JB)) hT) ⟨_,_,rfl,z2⟩ ?_ (JEY (.int _ _) y2)
  ·intro b ob hb q
   have hb':b≠e/\b≠it:=by simpa using hb
   exact J2w _ _ hb'.1 (hk' b ob hb'.1 hb'.2 q)
  ·intro q hq
   rcases Jf hq with rfl|hq
   ·exact he''
   ·obtain rfl:=JQ hq;exact J2w _ _ (J2k hne) z1
 ·rintro A X st T vs s h t hs N own ρ m B hh ⟨old,o,rfl,c1,c2⟩ hk R hg Q E hQ
  refine e0_2 Jg λz zs=> ?_
  refine e3_3 (J2j B z hk) λa items nn e1 g1 g2=> ?_
  cases e1
  have:=J72
  refine wpAny_pyNext_enum_end (s:=At s h t) hh (hg (e,d9 it _ old) JB) (i_eaa o (hg (it,o) (Jk _ JB)) c1 c2) (aO _ g1 rfl _ rfl) (by rw[dS,this];simp) λh' hx=>hQ h' t λb ob hb q=>hx b ob (λz=>hb (by rw[z];simp)) q
 ·rintro A s h t hs ⟨old,o,rfl,c1,c2⟩ hg Q E hQ
  exact J59 (s:=At s h t) (hg (e,d9 it _ old) JB) hQ
theorem qn {w:World}{Γ:Nm}{n:Nat}{elts:List Expr}{kk:Nat}{pos:Pos}{vc:EV->VC Unit}(ht:cO Γ n (.Tuple elts kk pos) vc) {e it:Addr}(hne:e≠it) {b:List UInt8}{arr:Array UInt8}{tb:Tok}(hb:J9d=b) {keep:St->Prop}:
  je w Γ n (.Tuple elts kk pos) (vt2 vc) (.ref e) (eO (J52 λc=>.int J28)) [] [] keep (BI e it "bytes_iterator" (.bytes arr tb)):=by
 have hsz:arr.size=J2:=by rw[<- hb];simp
 refine k8 (as:=[e,it]) ht (λk hs ⟨old,o,e1,_⟩=>by rw[e1];rfl) ?_ ?_ ?_
 ·rintro A X st T vs s h t k hs vals N own ρ m B hh ⟨old,o,rfl,c1,c2⟩ hp hk R hg Q E hQ
  have he:=hg (e,d9 it k old) JB
  refine e1_2 (eN hp) λp hq er0=> ?_
  obtain rfl:=er0
  replace hq:=(JR)▸hq
  clear hp
  refine e1_2 (Jw hq) λc hc er1=> ?_
  obtain rfl:=er1
  have hi:=hg (it,o) (Jk _ JB)
  have l2:=Jo hi
  have hae:JM∉[e,it]:=by
   intro z
   rcases Jf z with z|z
   ·exact absurd (Jo he) (by rw[<- z];exact J0V _)
   ·rw[JQ z] at l2;exact absurd l2 (J0V _)
  refine wpAny_pyNext_enum_itemD (s:=At s h t) (kg (A:=J6t) hh it arr tb) he (i_eaa o hi c1 c2) (by rw[hsz];exact get_lt' hc) hne (by simpa using hne) λx h' tk hP ho hit hT hz hk'=> ?_
  refine e2_2 hP λc' u hc' er2=> ?_
  clear hP
  obtain rfl:=er2
  refine e1_2 hit λo' z1 z2=> ?_
  clear hit
  have ec:c'=c:=by
   rw[<- hb] at hc
   have:arr[k]? =some c:=by simpa using hc
   rw[this] at hc'
   exact (JT hc').symm
  clear hc
  subst ec
  refine J94 (s:={ At s h t with heap:=h',toks:=tk+1 }) ho λh'' he'' hs''=>hQ _ _ 0 h'' _ [(e,d9 it (k+1:Nat) (.int (c'.toNat:Int) u)),(it,o')] ?_ (Jb _) hae (J2w _ _ (λz=>hae (by rw[z];exact JB)) hT) ⟨_,_,rfl,z2⟩ ?_ (JEY (.int _ _) (.int _ _))
  ·intro b ob hb q
   have hb':b≠e/\b≠it:=by simpa using hb
   exact J2w _ _ hb'.1 (hk' b ob hb'.1 hb'.2 q)
  ·intro q hq
   rcases Jf hq with rfl|hq
   ·exact he''
   ·obtain rfl:=JQ hq;exact J2w _ _ (J2k hne) z1
 ·rintro A X st T vs s h t hs N own ρ m B hh ⟨old,o,rfl,c1,c2⟩ hk R hg Q E hQ
  rw[dS,J6,<- hsz] at c2
  exact wpAny_pyNext_enum_endD (s:=At s h t) (kg (A:=J6t) hh it arr tb) (hg (e,d9 it _ old) JB) (i_eaa o (hg (it,o) (Jk _ JB)) c1 c2) λh' hx=>hQ h' t λb ob hb q=>hx b ob (λz=>hb (by rw[z];simp)) q
 ·rintro A s h t hs ⟨old,o,rfl,c1,c2⟩ hg Q E hQ
  exact J59 (s:=At s h t) (hg (e,d9 it _ old) JB) hQ
structure Ap (z TI TO i1 i2:Addr):Prop where
 zTI:z≠TI
 zTO:z≠TO
 z1:z≠i1
 z2:z≠i2
 TITO:TI≠TO
 TI1:TI≠i1
 TI2:TI≠i2
 TO1:TO≠i1
 TO2:TO≠i2
 i12:i1≠i2
theorem wv {w:World}{A:J7}{z TI TO i1 i2 l2:Addr}{k:Nat}{x:Str}{tx:Tok}{c:Nat}{ys:Array Value}{y a b:Value}{s:J1}{Q E:Value->J1->Prop}(hd:Ap z TI TO i1 i2) (hl2:l2≠z/\l2≠TO/\l2≠i1/\l2≠i2)
  (hz:IsZip JG z TI TO .none) (hTI:J8u JG TI (.ref i1) (.ref i2)) (hTO:J8u JG TO a b) (h1:JDF i1 "str_ascii_iterator" x tx k) (h2:JC6 i2 l2 k) (hl:J6N l2 ys) (hx:JGk[k]? =some c) (hy:ys[k]? =some y)
  (hQ:∀h' t',IsZip h' z TI TO (J3y JS)->J8u h' TO (.str ⟨#[c]⟩ J3E) y->h'.IsStrIter i1 "str_ascii_iterator" x tx (k+1)->JF2 i2 l2 (k+1)->J8u h' JS (.str ⟨#[c]⟩ J3E) y->
   (∀c o,c≠z->c≠TO->c≠i1->c≠i2->Jr c=some o->JW c=some o)->Q (.ref JS) { s with heap:=h',toks:=t' }):
  JF (model prog0 w) A (Builtin.«zip.__next__» ⟨[.ref z],[]⟩) (λfin s'=>∃v,fin=.done (.ret v)/\Q v s') E s:=by
 obtain⟨zTI,zTO,z1,z2,TITO,TI1,TI2,TO1,TO2,i12⟩:=hd
 refine e0_4 hl2 λlz lTO l1 l2'=> ?_
 clear hl2
 show JF _ _ (field (.ref z) 2>>=_) _ _ _
 refine kB (J0Z hz rfl (x:=.bool false) rfl ?_)
 refine kB (J0Z hz rfl (x:=.ref TI) rfl (kB (J4A hTI rfl ?_)))
 refine kB ?_
 refine kB (J0Z hz rfl (x:=.none) rfl (JI ?_))
 refine JBK rfl ?_
 refine kB (J2c (kB (J0Z hz rfl (x:=.ref TO) rfl (kB (J3h hz (by simp) λh1a hz1 hs1=> ?_)))))
 refine kB ?_
 simp only [List.zipIdx_cons,List.zipIdx_nil,J3s,J9J]
 refine kB (kB (J6k ?_))
 refine kB (wpAny_nextOf_ascii_item (h1.extBut J5E (J2k z1)) hx λh2a h12a hs₂=>JI ?_)
 have hTO2:J8u h2a TO a b:=J7b _ _ TO1 (J5E _ _ (J2k zTO) hTO)
 refine kB (J4A hTO2 rfl (kB (JBC hTO2 λh3a hTO3 hs3a=> ?_)))
 refine kB (JCu (JI (kB (kB (J6k ?_)))))
 refine kB (tF (((h2.extBut J5E (J2k z2)).extBut J7b (J2k i12)).extBut J5D (J2k TO2))
  (((hl.extBut J5E lz).extBut J7b l1).extBut J5D lTO) hy λh4a h24 hs4=>JI ?_)
 have hTO4:J8u h4a TO (.str ⟨#[c]⟩ J3E) b:=J9U _ _ TO2 hTO3
 refine kB (J4A hTO4 rfl (kB (JBC hTO4 λh5a hTO5 hs5=> ?_)))
 replace hTO5:J8u h5a TO (.str ⟨#[c]⟩ J3E) y:=hTO5
 refine kB (JCu (JI (JI (kB (J4A hTO5 rfl (kB (JEw ?_)))))))
 have hz5:IsZip h5a z TI TO .ellipsis:=J6G _ _ zTO (J9U _ _ z2 (J5D _ _ zTO (J7b _ _ z1 hz1)))
 have hsz:J5t=JS:=by rw[hs5.1,hs4.1,hs3a.1,hs₂.1,hs1.1]
 have hk5:∀c o,c≠z->c≠TO->c≠i1->c≠i2->Jr c=some o->h5a.get? c=some o:=λc o c1 c2 c3 c4 e=>J6G _ _ c2 (J9U _ _ c4 (J5D _ _ c2 (J7b _ _ c3 (J5E _ _ c1 e))))
 have hz6:IsZip (h5a.push { cls:=.type "tuple",data:=.seq #[.str ⟨#[c]⟩ J3E,y] }) z TI TO .ellipsis:=JY _ hz5
 have hzlt:z<J5t:=Jo hz5
 refine kB ?_
 refine kB (J3h hz6 (by simp) λh7a hz7 hs7=> ?_)
 replace hz7:IsZip h7a z TI TO (J3y J5t):=hz7
 refine J3h hz7 (by simp) λh8a hz8 hs8=> ?_
 have up:∀c o,c≠z->h5a.get? c=some o->h8a.get? c=some o:=λc o c1 e=>hs8.extBut _ _ c1 (hs7.extBut _ _ c1 (JY _ e))
 replace hz8:IsZip h8a z TI TO (J3y J5t):=hz8
 have hT8:J8u h8a J5t (.str ⟨#[c]⟩ J3E) y:=hs8.extBut _ _ (J3c hzlt) (hs7.extBut _ _ (J3c hzlt) (J09 _ rfl))
 rw[hsz] at hz8 hT8
 refine JI (az _ rfl ?_)
 rw[hsz]
 refine hQ h8a _ hz8 (up _ _ (J2k zTO) hTO5) (by obtain⟨o,e,r⟩:=(((h12a.extBut J5D (J2k TO1)).extBut J9U i12).extBut J6G (J2k TO1));exact (az o (up _ o (J2k z1) e) r)) (by obtain⟨o,e,r⟩:=(h24.extBut J6G (J2k TO2));exact (az o (up _ o (J2k z2) e) r)) hT8 λc o c1 c2 c3 c4 e=>up c o c1 (hk5 c o c1 c2 c3 c4 e)
theorem yf {w:World}{A:J7}{z TI TO i1 i2:Addr}{k:Nat}{x:Str}{tx:Tok}{s:J1}{Q:Fin->J1->Prop}{E:Value->J1->Prop}(hh:J3v=none) (hd:Ap z TI TO i1 i2)
  (hz:IsZip JG z TI TO .none) (hTI:J8u JG TI (.ref i1) (.ref i2)) (h1:JDF i1 "str_ascii_iterator" x tx k) (hx:JGk[k]? =none)
  (hE:∀h' e,(∀c o,c≠z->c≠TO->c≠i1->c≠i2->Jr c=some o->JW c=some o)->(∃o,JW e=some o/\J9B=.type "StopIteration")->E (.ref e) { s with heap:=h' }):
  JF (model prog0 w) A (Builtin.«zip.__next__» ⟨[.ref z],[]⟩) Q E s:=by
 obtain⟨zTI,zTO,z1,z2,TITO,TI1,TI2,TO1,TO2,i12⟩:=hd
 show JF _ _ (field (.ref z) 2>>=_) _ _ _
 refine kB (J0Z hz rfl (x:=.bool false) rfl ?_)
 refine kB (J0Z hz rfl (x:=.ref TI) rfl (kB (J4A hTI rfl ?_)))
 refine kB ?_
 refine kB (J0Z hz rfl (x:=.none) rfl (JI ?_))
 refine JBK rfl ?_
 refine kB (J2c (kB (J0Z hz rfl (x:=.ref TO) rfl (kB (J3h hz (by simp) λh1a hz1 hs1=> ?_)))))
 replace hz1:IsZip h1a z TI TO .ellipsis:=hz1
 refine kB ?_
 refine kB (kB (J6k ?_))
 refine kB (wpAny_nextOf_ascii_end hh (h1.extBut J5E (J2k z1)) hx λh2a e hs₂ he=> ?_)
 refine e1_2 he λoe hoe hce=> ?_
 clear he
 have hz2:IsZip h2a z TI TO .ellipsis:=hs₂ _ _ z1 hz1
 have hez:e≠z:=λx=>by subst x;rw[hz2] at hoe;cases hoe;simp at hce
 refine J3h hz2 (by simp) λh3a y hs3a=>hE h3a e (λc o c1 y c3 y q=>J5D _ _ c1 (hs₂ _ _ c3 (J5E _ _ c1 q))) (az oe (J5D _ _ hez hoe) hce)
abbrev kI (TI TO:Addr):Obj:={ cls:=.type "zip",dict:=none,data:=.fields #[.none,.bool false,.bool false,.ref TI,.ref TO],slots:= #[] }
abbrev bJ (a b:Value):Obj:={ cls:=.type "tuple",data:=.seq #[a,b] }
abbrev cq (x:Str) (t:Tok) (k:Nat):Obj:={ cls:=.type "str_ascii_iterator",data:=.fields #[.str x t,.int (k:Nat) 0] }
abbrev cH (l:Addr) (k:Nat):Obj:={ cls:=.type "tuple_iterator",data:=.fields #[.ref l,.int (k:Nat) 0] }
theorem BN {w:World}{A:J7}{E Q:Value->J1->Prop}{s:J1}{x:Str}{tx:Tok}{l:Addr}{ys:Array Value}(ha:JAP (·<128)=true) (hl:J6N l ys)
  (h:∀n,n=JS->Q (.ref (n+4)) { s with heap:=((((J0T (cq x tx 0)).push (cH l 0)).push (bJ (.ref n) (.ref (n+1)))).push (bJ .none .none)).push (kI (n+2) (n+3)) }):
  JF (model prog0 w) A (call (.type "zip") [.str x tx,.ref l]) Q E s:=by
 have z1:(J0T (cq x tx 0)).objs.size=JS+1:=J10 ..
 have z2:((J0T (cq x tx 0)).push (cH l 0)).objs.size=JS+2:=by rw[J10,z1]
 have z3:(((J0T (cq x tx 0)).push (cH l 0)).push (bJ (.ref JS) (.ref (JS+1)))).objs.size=JS+3:=by rw[J10,z2]
 have z4:((((J0T (cq x tx 0)).push (cH l 0)).push (bJ (.ref JS) (.ref (JS+1)))).push (bJ .none .none)).objs.size=JS+4:=by rw[J10,z3]
 refine J9D F.called_zip (by decide) (F.typeCall_zip_2 _ _) (F.newCall_zip_2 _ _) (λobj=>F.args_object_init_3 obj _ _) F.entry_zip_new
  (S:=λA R s'=>J7X=JG/\R (.ok (.ret (.ref (JS+4)))) { s' with heap:=((((J0T (cq x tx 0)).push (cH l 0)).push (bJ (.ref JS) (.ref (JS+1)))).push (bJ .none .none)).push (kI (JS+2) (JS+3)) })
  (.of_wp λA R s' hR=> ?_) ⟨rfl,?_⟩
 ·obtain⟨hp,g,d,tk,os⟩:=s'
  obtain⟨e,hR⟩:=hR
  dsimp only at e
  refine J5x▸?_
  have hsub:=sub_zip
  have hL2:Heap.IsTuple (Shared.heap ⟨J0T { cls:=.type "str_ascii_iterator",data:=.fields #[.str x tx,.int 0 0] },g,d,tk,os⟩) l ys:=Heap.IsTuple.push hl _
  wp_walk using JC2 ha,JC1 hL2
  exact (az _ rfl (by simp only [J10,J24,Nat.reduceAdd];exact hR))
 ·have:=J09 ((((J0T (cq x tx 0)).push (cH l 0)).push (bJ (.ref JS) (.ref (JS+1)))).push (bJ .none .none)) (o:=kI (JS+2) (JS+3)) rfl
  rw[z4] at this
  exact⟨(az _ this rfl),h _ rfl⟩
def fw (x:Str) (ps:List PV):List (List PV):=(JZ JCX).map λk:Nat=>[.str ⟨#[J9O k 0]⟩,JGy k .none]
inductive Gh (n:Addr) (x:Str) (tx:Tok) (l:Addr) (k:Nat) (hs:Led):Prop
 |mk (a b:Value) (o1 o2:Obj) (e:hs=[(n+4,kI (n+2) (n+3)),(n+3,bJ a b),(n,o1),(n+1,o2),(n+2,bJ (.ref n) (.ref (n+1)))])
  (c1:o1.cls=.type "str_ascii_iterator"/\o1.data=.fields #[.str x tx,.int (k:Nat) 0]) (c2:o2.cls=.type "tuple_iterator"/\o2.data=.fields #[.ref l,.int (k:Nat) 0])
theorem Ct {n k:Nat}{L:List Nat}(hL:∀j∈L,j<=k):∀m∈L.map (n+·),m<=n+k:=λm h=>by
 refine e1_2 (Ja h) λj hj er0=> ?_
 clear h
 obtain rfl:=er0
 exact J6m (hL j hj) n
theorem Cs {n a b:Nat}(h:a≠b):n+a≠n+b:=λz=>h (Nat.add_left_cancel z)
theorem allN {α:Type}{P:α->Prop}:∀x∈([]:List α),P x:=λy h=>nomatch h
theorem allC {α:Type}{P:α->Prop}{a:α}{l:List α}(h:P a) (r:∀x∈l,P x):∀x∈a::l,P x:=λx hx=>by
 rcases Jf hx with rfl|hx
 ·exact h
 ·exact r x hx
theorem ET {w:World}{Γ:Nm}{nn:Nat}{elts:List Expr}{kk:Nat}{pos:Pos}{vc:EV->VC Unit}(ht:cO Γ nn (.Tuple elts kk pos) vc) {n l:Addr}(hl:l<n) {x:Str}{tx:Tok}{ps:List PV}(hlen:JCX=Jt):
  je w Γ nn (.Tuple elts kk pos) (vt2 vc) (.ref (n+4)) (fw x ps) [.pv (.tup ps)] [.ref l] (λy=>True) (Gh n x tx l):=by
 have dd:∀{a b:Nat},a≠b->n+a≠n+b:=Cs
 have hd:Ap (n+4) (n+2) (n+3) n (n+1):=⟨dd (by decide),dd (by decide),dd (b:=0) (by decide),dd (by decide),dd (by decide),dd (b:=0) (by decide),dd (by decide),dd (b:=0) (by decide),dd (by decide),dd (a:=0) (by decide)⟩
 have ll:∀{a:Nat},l≠n+a:=J0O (J0d hl (J2f _ _))
 have hl2:l≠n+4/\l≠n+3/\l≠n/\l≠n+1:=(ax ll ll (ll (a:=0)) ll)
 refine k8 (as:=[n+4,n+3,n,n+1,n+2]) ht (λk hs ⟨a,b,o1,o2,e1,_,_⟩=>by rw[e1];rfl) ?_ ?_ ?_
 ·rintro A X st T vs s h t k hs vals N own ρ m B hh ⟨a,b,o1,o2,rfl,c1,c2⟩ hp hk R hg Q E hQ
  have hz:=hg _ (.head _)
  unfold fw at hp
  rw[JR] at hp
  refine e1_2 (Jw hp) λj hj er0=> ?_
  obtain rfl:=er0
  refine e1_1 (J04 hj) λhlt hj=> ?_
  rw[J7F] at hj
  subst hj
  replace hlt:=(J0I)▸hlt
  have hx:JGk[k]? =some (J9O k 0):=by rw[Array.getD_eq_getD_getElem?,J57 hlt];rfl
  have hps:ps[k]? =some (JGy k .none):=by rw[J02,Jy (hlen▸hlt)];rfl
  have z:=Jg.1.pvI
  have FZ:=λa o q=>J29 B (a:=a) (o:=o) q
  clear R hp hk
  refine e3_3 JDW λy items y e f g2=> ?_
  cases e
  refine e1_2 (J9W hps) λv y1 y2=> ?_
  have h3:=hg _ (.tail _ (.head _))
  have h0:=hg _ (.tail _ (.tail _ (.head _)))
  have h1:=hg _ (.tail _ (.tail _ (.tail _ (.head _))))
  have h2:=hg _ (.tail _ (.tail _ (.tail _ (.tail _ (.head _)))))
  clear hg
  have hT:(At s h t).TypeIs (.ref (n+4)) "zip":=(az _ hz rfl)
  have hae:JM∉[n+4,n+3,n,n+1,n+2]:=λz=>absurd (Jo hz) (J6V (Ct (n:=n) (k:=4) (L:=[4,3,0,1,2]) (by decide) _ z))
  show JF _ _ (J70 _) _ _ _
  refine kB (J2W (J1P (name:=J11 "__next__") hT J67
   (J1X J67 hT JDU (wv (s:=At s h t) hd hl2 hz h2 h3 (az o1 h0 c1) (az o2 h1 c2) (aO _ (FZ _ _ f) rfl _ rfl) hx (by simpa using y1)
    λh' t' q1 q2 q3 q4 q5 q6=>JI ?_) (JD9 _))))
  refine wpAny_letOwnedTupleGo_zip (s:={ At s h t with heap:=h',toks:=t' }) q1 λh'' hz'' hs''=> ?_
  refine e1_2 q3 λo1' r1 r2=> ?_
  clear q3
  refine e1_2 q4 λo2' r3 r4=> ?_
  clear q4
  have up:∀{c o},c≠n+4->JW c=some o->h''.get? c=some o:=λhc e=>J2w _ _ hc e
  exact hQ _ _ 0 h'' _ [(n+4,kI (n+2) (n+3)),(n+3,bJ (.str ⟨#[J9O k 0]⟩ t) v),(n,o1'),(n+1,o2'),(n+2,bJ (.ref n) (.ref (n+1)))]
   (λb ob hb q=>up (λz=>hb (z▸.head _)) (q6 b ob (λz=>hb (z▸.head _)) (λz=>hb (z▸.tail _ (.head _))) (λz=>hb (z▸.tail _ (.tail _ (.head _)))) (λz=>hb (z▸.tail _ (.tail _ (.tail _ (.head _))))) q)) (Jb _) hae (up (λz=>hae (z▸.head _)) q5) ⟨_,_,o1',o2',rfl,r2,r4⟩
   (allC hz'' (allC (up (dd (by decide)) q2) (allC (up (dd (a:=0) (by decide)) r1) (allC (up (dd (by decide)) r3) (allC (up (dd (by decide)) (q6 _ _ (dd (by decide)) (dd (by decide)) (dd (b:=0) (by decide)) (dd (by decide)) h2)) allN))))) (JEY (.str _ _) y2)
 ·rintro A X st T vs s h t hs N own ρ m B hh ⟨a,b,o1,o2,rfl,c1,c2⟩ hk R hg Q E hQ
  have hz:=hg _ (.head _)
  have h0:=hg _ (.tail _ (.tail _ (.head _)))
  have h2:=hg _ (.tail _ (.tail _ (.tail _ (.tail _ (.head _)))))
  clear hg R
  have hT:(At s h t).TypeIs (.ref (n+4)) "zip":=(az _ hz rfl)
  refine kB (J2W (J1P (name:=J11 "__next__") hT J67
   (J1X J67 hT JDU (yf (s:=At s h t) hh hd hz h2 (az o1 h0 c1) (by unfold fw;simp) λh' e hk' he=> ?_) (JD9 _))))
  refine e1_2 he λo ho hc=> ?_
  clear he
  refine kB (J3O (T:="StopIteration") (b:=true) (az o ho hc) JF0 ?_)
  exact JI (hQ h' t λb ob hb q=>hk' b ob (λz=>hb (z▸.head _)) (λz=>hb (z▸.tail _ (.head _))) (λz=>hb (z▸.tail _ (.tail _ (.head _)))) (λz=>hb (z▸.tail _ (.tail _ (.tail _ (.head _))))) q)
 ·rintro A s h t hs ⟨a,b,o1,o2,rfl,c1,c2⟩ hg Q E hQ
  exact JDC (s:=At s h t) (hg _ (.head _)) hQ
section
variable {Γ Γt:Nm}{n:Nat}{elts:List Expr}{kk:Nat}{tpos:Pos}{vc:EV->VC Unit}
theorem Rel.holdTwo {w:World}{X:Fx}{st:St}{T:List EV}{vs:List Value}{h:Heap}(H:Rel w Γ X st T vs h) (o o':Obj) (ho:J71=false) (ho':o'.isFreed=false):Rel w Γ (Jp [(JM+1,o'),(JM,o)]) st T vs ((J2R o).push o'):=by
 have hz:(J2R o).objs.size=JM+1:=J10 ..
 refine JEk (by simp [addrs]) (λp hp=> ?_) (λp hp=> ?_) λb ob e=>JY _ (JY _ e)
 ·rcases Jf hp with rfl|hp
  ·exact J4n _
  ·obtain rfl:=JQ hp;exact Jb _
 ·rcases Jf hp with rfl|hp
  ·have:=J09 (J2R o) (o:=o') ho'
   rw[hz] at this;exact this
  ·obtain rfl:=JQ hp;exact JY _ (J09 _ ho)
theorem iH {id:Str}{p pos:Pos}{f:Value}{args:List Expr}{tgt:Expr}{vt:List PV->VC Unit}{va:VC (List EV)}{G:List EV->VC (List (List PV)×(St->Prop))}(hf:Sem Γ n (.Name id p) (λst P=>P (.pv (.val f)) st)) (hk:jR f) (ha:gj Γ n args va) (hs:bX args)
  (hc:∀{{w:World}} {{A:J7}} {{env:Env}} {{X:Fx}},Cx w A env Γ X n->∀{{st:St}} {{T:List EV}} {{vs:List Value}} {{as:List EV}} {{ws:List Value}} {{s:J1}} {{h:Heap}} {{t:Nat}} {{Q:Value->J1->Prop}} {{E:Value->J1->Prop}} {{P:List (List PV)×(St->Prop)->St->Prop}},
   J2b=Jx->Rel w Γ X st (as++T) (ws++vs) h->G as st P->
   (∀items keep it src srcv hs Inv st' h' t',J7T=J6a->je w Γt n tgt vt it items src srcv keep Inv->Inv 0 hs->Rel w Γ (Jp hs) st' (src++T) (srcv++vs) h'->P (items,keep) st'->Q it (At s h' t'))->
   ae (model prog0 w) A (call f ws) (λx s1a=>ae (model prog0 w) A (J6P x) Q E s1a) E (At s h t)):
  dQ Γ Γt n (.Call (.Name id p) args [] pos) tgt vt (λst P=>va st λas st1=>G as st1 P):=by
 intro w A env X C st T vs s h t Q E P H hv hQ
 refine bR (hf C (P:=λev st'=>ev=.pv (.val f)/\va st' λas st1=>G as st1 P) H ⟨rfl,hv⟩ λev v st1 h1 t1 H1 hv1=> ?_)
 obtain⟨rfl,hv1⟩:=hv1
 refine e2_1 JBu λfz ρ z=> ?_
 have e:v=f:=by cases z with |pv z=>cases z;rfl
 refine J5x▸?_
 exact mD C ha hs hk (firstv:=[]) JEh hv1 λas ws st2 h2 t2 hl H2 hG=>hc C hl H2 hG hQ
def FX:List EV->VC (List (List PV)×(St->Prop)):=p1 λe st P=>bj (cG e) (λb=>P (eO (J52 λc=>.int J28),λy=>True) st) (aj (bF e st) λps=>P (eO ps,λst'=>bF e st'=some ps) st)
theorem pC {nm:Str}{p pos:Pos}{args:List Expr}{va:VC (List EV)}(hf:Sem Γ n (.Name nm p) (λst P=>P (.pv (.val (.type "enumerate"))) st)) (ha:gj Γ n args va) (hs:bX args) (ht:cO Γt n (.Tuple elts kk tpos) vc):
  dQ Γ Γt n (.Call (.Name nm p) args [] pos) (.Tuple elts kk tpos) (vt2 vc) (λst P=>va st λas st1=>FX as st1 P):=by
 refine iH hf (.inr (.inr ⟨_,rfl⟩)) ha hs λ{w A env X} C {st T vs as ws s h t Q E P} hl H hv hQ=> ?_
 refine e1_2 (Eg hv) λe er1 hv=> ?_
 obtain rfl:=er1
 refine e1_1 (Aj hl) λv er1=> ?_
 clear hl
 obtain rfl:=er1
 refine J3a (aX hv) (λhv=> ?_) λhv=> ?_
 ·refine e1_2 (ah hv) λb q hv=> ?_
  refine e2_1 JCQ λfz ρ z=> ?_
  refine e1_1 (bW q z) λtb er1=> ?_
  refine J0y▸?_
  refine av (sx (s:=At s h t) (o:={ cls:=.type "bytes_iterator",data:=.fields #[.bytes J60 tb,.int 0 0] }) rfl (λ{A' s' Q' E'} e q=>JDP q) ?_)
  have H2:=(H.pop.holdTwo { cls:=.type "bytes_iterator",data:=.fields #[.bytes J60 tb,.int 0 0] } (d9 JM 0 .none) rfl rfl)
  exact av (J59 (s:=At s _ t) (JD3 JB) (hQ _ _ _ [] [] _ _ st _ t rfl (qn ht (J3c (J1n _)) rfl) ⟨.none,_,rfl,rfl,rfl⟩ H2 hv))
 ·refine e1_2 (ah hv) λps q hv=> ?_
  refine J9 H λN own ρ m R=> ?_
  refine e0_2 Jg λz zs=> ?_
  refine e3_3 (J2j J1q z q) λa items nn er1 g1 g2=> ?_
  clear R z
  obtain rfl:=er1
  refine av (sx (s:=At s h t) (o:={ cls:=.type "list_iterator",data:=.fields #[.ref a,.int 0 0] }) rfl (λ{A' s' Q' E'} e q=>JCZ (items:=items) (by rw[e];exact (aO _ g1 rfl _ rfl)) q) ?_)
  have H2:=(H.holdTwo { cls:=.type "list_iterator",data:=.fields #[.ref a,.int 0 0] } (d9 JM 0 .none) rfl rfl)
  exact av (J59 (s:=At s _ t) (JD3 JB) (hQ _ _ _ [e] [.ref a] _ _ st _ t rfl (sy ht (J3c (J1n _))) ⟨.none,_,rfl,rfl,rfl⟩ H2 hv))
def GU:List EV->VC (List (List PV)×(St->Prop)):=p2 λa b st P=>aj (eT a) λx=>aj (i8 b) λps=>(JAP (·<128)=true/\JCX=Jt)/\P (fw x ps,λy=>True) st
theorem rm {nm:Str}{p pos:Pos}{args:List Expr}{va:VC (List EV)}(hf:Sem Γ n (.Name nm p) (λst P=>P (.pv (.val (.type "zip"))) st)) (ha:gj Γ n args va) (hs:bX args) (ht:cO Γt n (.Tuple elts kk tpos) vc):
  dQ Γ Γt n (.Call (.Name nm p) args [] pos) (.Tuple elts kk tpos) (vt2 vc) (λst P=>va st λas st1=>GU as st1 P):=by
 refine iH hf (.inr (.inr ⟨_,rfl⟩)) ha hs λ{w A env X} C {st T vs as ws s h t Q E P} hl H hv hQ=> ?_
 refine e2_2 (rT hv) λea eb er1 hv=> ?_
 obtain rfl:=er1
 refine e2_1 (xt hl) λv u er1=> ?_
 clear hl
 obtain rfl:=er1
 refine e1_2 (ah hv) λx q1 hv=> ?_
 refine e1_2 (ah hv) λps q2 hv=> ?_
 refine e0_2 hv λen0 hv5=> ?_
 refine e0_2 en0 λh1 h2=> ?_
 clear en0
 clear hv
 obtain rfl:=wm q1
 clear q1
 obtain rfl:=qN q2
 refine J9 H λN own ρ m R=> ?_
 refine e0_2 Jg λz zs=> ?_
 refine e1_1 J58 λtx er1=> ?_
 refine J0y▸?_
 refine e0_2 zs.inv λz2 zs=> ?_
 refine e3_3 z2.pvI.inv λl items nn er2 f g2=> ?_
 clear q2 z2 zs
 obtain rfl:=er2
 have g1:=J29 J1q f
 have hlt:=Jo g1
 refine av (BN (s:=At s h t) h1 (aO _ g1 rfl _ rfl) λn0 e0=> ?_)
 have hn0:n0=JM:=e0
 have z1:(J2R (cq x tx 0)).objs.size=n0+1:=by rw[hn0];exact J10 ..
 have z2':((J2R (cq x tx 0)).push (cH l 0)).objs.size=n0+2:=by rw[J10,z1]
 have z3:(((J2R (cq x tx 0)).push (cH l 0)).push (bJ (.ref n0) (.ref (n0+1)))).objs.size=n0+3:=by rw[J10,z2']
 have z4:((((J2R (cq x tx 0)).push (cH l 0)).push (bJ (.ref n0) (.ref (n0+1)))).push (bJ .none .none)).objs.size=n0+4:=by rw[J10,z3]
 have g5:=J09 ((((J2R (cq x tx 0)).push (cH l 0)).push (bJ (.ref n0) (.ref (n0+1)))).push (bJ .none .none)) (o:=kI (n0+2) (n0+3)) rfl
 have g4:=JY (kI (n0+2) (n0+3)) (J09 (((J2R (cq x tx 0)).push (cH l 0)).push (bJ (.ref n0) (.ref (n0+1)))) (o:=bJ .none .none) rfl)
 have g3:=JY (kI (n0+2) (n0+3)) (JY (bJ .none .none) (J09 ((J2R (cq x tx 0)).push (cH l 0)) (o:=bJ (.ref n0) (.ref (n0+1))) rfl))
 have g2':=JY (kI (n0+2) (n0+3)) (JY (bJ .none .none) (JY (bJ (.ref n0) (.ref (n0+1))) (J09 (J2R (cq x tx 0)) (o:=cH l 0) rfl)))
 have g1':=JY (kI (n0+2) (n0+3)) (JY (bJ .none .none) (JY (bJ (.ref n0) (.ref (n0+1))) (JY (cH l 0) (J09 h (o:=cq x tx 0) rfl))))
 rw[z4] at g5
 rw[z3] at g4
 rw[z2'] at g3
 rw[z1] at g2'
 rw[<- hn0] at g1'
 have H2:Rel w Γ (Jp [(n0+4,kI (n0+2) (n0+3)),(n0+3,bJ .none .none),(n0,cq x tx 0),(n0+1,cH l 0),(n0+2,bJ (.ref n0) (.ref (n0+1)))]) st ([.pv (.tup ps)]++T) ([.ref l]++vs) (((((J2R (cq x tx 0)).push (cH l 0)).push (bJ (.ref n0) (.ref (n0+1)))).push (bJ .none .none)).push (kI (n0+2) (n0+3))):=by
  refine H.pop.holdNew ?_ (λp hp=> ?_) (λp hp=> ?_) λb ob e=>JY _ (JY _ (JY _ (JY _ (JY _ e))))
  ·simp only [addrs,J0t,JGU,List.nodup_cons,JA7,J5f,JFL,not_or,J1B,not_false_eq_true,and_true]
   unfold Addr at *;exact z10 0x1010100101010101010128091809a328090a318090a34428093809a318093809a3403809a34428094809a318094809a3404809a3438094809a3440
  ·simp only [JA7,J5f,JFL] at hp
   refine (hn0)▸?_
   rcases hp with rfl|rfl|rfl|rfl|rfl<;>(dsimp only;unfold Addr at *;omega)
  ·simp only [JA7,J5f,JFL] at hp
   rcases hp with rfl|rfl|rfl|rfl|rfl
   ·exact g5
   ·exact g4
   ·exact g1'
   ·exact g2'
   ·exact g3
 exact av (JDC (s:=At s _ t) g5 (hQ _ _ _ [.pv (.tup ps)] [.ref l] _ _ st _ t rfl (ET ht (by rw[hn0];exact hlt) h2) ⟨.none,.none,_,_,rfl,⟨rfl,rfl⟩,⟨rfl,rfl⟩⟩ H2 hv5))
set_option tactic.hygienic true in
theorem Rel.slotHeld {w:World}{X:Fx}{st:St}{T:List EV}{vs:List Value}{h:Heap}{i:Nat}{v:Value}{as:List (Nat×EV)}(H:Rel w Γ X st (.loc i::T) (v::vs) h) (q:nth J5 i=some (.sdict as)):
  ∃d od ds ep kvs,v=.ref d/\(d==J2I)=false/\JAb/\JH0=.dict ds ep/\J7p (SK w) ds/\Pairs (SK w) J5y kvs/\(J4f (·.1)).Nodup/\J4f (·.1)=J9c (λp=>ak p.1)/\
   Rel w Γ (Jp [(d,od)]) { st with sl:=upd J5 i .dead } (J9c (·.2)++T) (J4f (·.2)++vs) h:=by
 refine J9 H λN own ρ m R=> ?_
 rw[aZ] at q
 refine e0_2 Jg λz zs=> ?_
 refine e1_2 JDW λ_ er0 hρ=> ?_
 refine Jm▸?_
 rename_i d
 obtain⟨_,_,_,_,hm,lo,hx,hd,hk,hp,hn,ha⟩:=(J96 i d _ hρ q).inv
 rename_i od ds ep kvs
 have ho:=J2h hρ q (by intro z;cases z)
 have hD:∀b∈[d],own b=.slot i/\∃o,(b,o)∈N:=λb hb=>by obtain rfl:=JQ hb;exact (uE ho _ hm)
 have R':=JCs .held hD (get_lt' q)
 refine (jC d od ds ep (ie kvs rfl lo hx (dM hd hk hp hn ha.keysK ?_)))
 have mz:∀a o,aI JA N own a o->aI JA N (λb=>if b∈[d] then .held else own b) a o:=by
  rintro a o (q|⟨q1,q2⟩)
  ·exact .inl q
  ·exact .inr ⟨q1,(JL λz=>by have:=(hD _ z).1;rw[q2] at this;cases this).trans q2⟩
 have evs:∀{as:List (Nat×EV)}{kvs:List (Str×Value)},EVk (aI JA N own) ρ as kvs->EVs (aI JA N (λb=>if b∈[d] then .held else own b)) ρ (J9c (·.2)) (J4f (·.2)):=λh=>by
  induction h with
  |nil=>exact .nil
  |cons _ h _ ih=>exact .cons (JCD mz λ_ _ z=>z) ih
 rw[dX]
 refine⟨N,_,ρ,m,R'.fr,R'.nw,R'.lo,R'.ce,R'.co,R'.rho,R'.len,R'.sl,R'.pre,(evs ha).append (zs.mono mz λ_ _ z=>z),λp hp=> ?_,?_⟩
 ·rcases Jf hp with rfl|hp
  ·exact⟨hm,JC JB⟩
  ·exact R'.held p hp
 ·refine J1c ⟨λz=> ?_,J7y⟩
  refine e1_2 (Ja z) λp hp e=> ?_
  have h1:=(J4k p hp).2
  rw[show p.1=d from e,ho] at h1
  cases h1
abbrev oY (d:Addr) (k n ep:Nat) (ok ov:Value):Obj:={ cls:=.type "dict_itemiterator",dict:=none,data:=.fields #[.none,.bool false,.ref d,.int (k:Nat) 0,.int (n:Nat) 0,.int (ep:Nat) 0,ok,ov],slots:= #[] }
def uA:List (Nat×EV)->Option (List (List PV)):=lR (some []) λx y r=>match x with
 |(k,.pv p)=>JGu ([.str (ak k),p]::·)
 |_=>none
theorem uz {as:List (Nat×EV)}:∀{l:List (List PV)},uA as=some l->JV=J2b/\∀{j:Nat}{vals:List PV},l[j]? =some vals->∃k p,as[j]? =some (k,.pv p)/\vals=[.str (ak k),p]:=by
 induction as with
 |nil=>intro l h;cases h;exact⟨rfl,λh=>nomatch h⟩
 |cons x r ih=>
  intro l h
  obtain⟨k,e⟩:=x
  cases e with
  |pv p=>
   obtain⟨l,z,rfl⟩:=Jw h
   refine e0_2 (ih z) λh1 h2=> ?_
   refine⟨JD J7C h1,λ{j vals} hj=> ?_⟩
   cases j with
   |zero=>cases hj;exact⟨k,p,rfl,rfl⟩
   |succ j=>exact h2 hj
  |_=>cases h
theorem EVs.at {fz:FzP}{ρ:List Addr}{es:List EV}{vs:List Value}(h:EVs fz ρ es vs) {j:Nat}{e:EV}{v:Value}(h1:es[j]? =some e) (h2:vs[j]? =some v):EVR fz ρ e v:=by
 refine e1_2 (h.get h1) λv' a b=> ?_
 rw[a] at h2;cases h2;exact b
theorem jJ:J73 table "dict_itemiterator.__iter__"=some Builtin.«dict_keyiterator.__iter__»:=
 JF5 (id':="dict_keyiterator.__iter__") (by kernel_rfl) rfl (by decide+kernel) (by kernel_rfl)
set_option tactic.hygienic true in
theorem CK {w:World}(ht:cO Γ n (.Tuple elts kk tpos) vc) {it d:Addr}{od:Obj}{ds:Array J0g}{ep:Nat}{kvs:List (Str×Value)}{as:List (Nat×EV)}{items:List (List PV)}(hne:it≠d) (hx:JAb) (hd:JH0=.dict ds ep) (hk:J7p (SK w) ds) (hp:Pairs (SK w) J5y kvs)
  (hn:(J4f (·.1)).Nodup) (he:J4f (·.1)=J9c (λp=>ak p.1)) (hi:uA as=some items):
  je w Γ n (.Tuple elts kk tpos) (vt2 vc) (.ref it) items (J9c (·.2)) (J4f (·.2)) (λ_=>True) (λk hs=>∃ok ov,hs=[(it,oY d k J2g ep ok ov),(d,od)]):=by
 refine e0_2 (uz hi) λhl hget=> ?_
 have hlen:J2g=J2b:=by have:=JD J4p he;simpa using this
 refine k8 (as:=[it,d]) ht (λk hs ⟨a,b,e1⟩=>by rw[e1];rfl) ?_ ?_ ?_
 ·intro A X st T vs s h t k hs vals N own ρ m B hh hq9 hq _ R hg Q E hQ
  refine e2_1 hq9 λok ov er0=> ?_
  clear hq9
  obtain rfl:=er0
  refine e2_2 (hget hq) λka p ha er0=> ?_
  obtain rfl:=er0
  have hlt:k<J2g:=by rw[hlen];exact get_lt' ha
  have hkv:kvs[k]? =some (kvs[k]'hlt):=Jy hlt
  have hk1:(kvs[k]'hlt).1=ak ka:=by
   have e1:(J4f (·.1))[k]? =some (kvs[k]'hlt).1:=by rw[JR,hkv];rfl
   rw[he,JR,ha] at e1
   exact (JT e1).symm
  have g1:=hg (it,oY d k J2g ep ok ov) JB
  have g2:=hg (d,od) (Jk _ JB)
  have l1:=Jo g1
  have l2:=Jo g2
  have hae:JM∉[it,d]:=by
   intro z
   rcases Jf z with z|z
   ·exact absurd l1 (by rw[<- z];exact J0V _)
   ·rw[JQ z] at l2;exact absurd l2 (J0V _)
  refine wpAny_pyNext_items_item (knd:=SK w) (s:=At s h t) (k:=(kvs[k]'hlt).1) (v:=(kvs[k]'hlt).2) g1 (jD od ds g2 hx hd hk hp hn) hkv λkey h' hkey hit hT hz hk'=> ?_
  have hpv:PR (aI JA N own) p (kvs[k]'hlt).2:=by
   refine e0_2 (J1N (by simpa using hlen.symm) J62) λq1 _=> ?_
   have:=q1.at (j:=k) (e:=.pv p) (v:=(kvs[k]'hlt).2) (by rw[JR,ha];rfl) (by rw[JR,hkv];rfl)
   cases this with |pv z=>exact z
  have hks:∃tk,key=.str (ak ka) tk:=by
   rw[hk1] at hkey
   cases key<;>first|cases hkey|skip
   rename_i x tk
   have:x=ak ka:=by
    have h0:((x==ak ka)=true):=hkey
    exact eq_of_beq h0
   exact⟨tk,by rw[this]⟩
  refine e1_1 hks λtk er1=> ?_
  clear hks
  clear hkey
  obtain rfl:=er1
  refine wpAny_letOwnedTupleGo_items (s:={ At s h t with heap:=h' }) hit λh'' hit'' hs''=>hQ _ _ 0 h'' _ [(it,oY d (k+1) J2g ep (.str (ak ka) tk) (kvs[k]'hlt).2),(d,od)] ?_ (Jb _) hae (J2w _ _ (λz=>hae (by rw[z];simp)) hT) (ic _ _ rfl) ?_ (JEY (.str _ tk) hpv)
  ·intro b ob hb q
   have hb':b≠it/\b≠d:=by simpa using hb
   exact J2w _ _ hb'.1 (hk' b ob hb'.1 q)
  ·intro q hq
   rcases Jf hq with rfl|hq
   ·exact hit''
   ·obtain rfl:=JQ hq;exact J2w _ _ (J2k hne) (hk' d od (J2k hne) g2)
 ·intro A X st T vs s h t hs N own ρ m B hh hq9 _ R hg Q E hQ
  refine e2_1 hq9 λok ov er2=> ?_
  clear hq9
  obtain rfl:=er2
  have g1:=hg (it,oY d _ J2g ep ok ov) JB
  rw[hl,<- hlen] at g1
  exact wpAny_pyNext_items_end (knd:=SK w) (s:=At s h t) hh g1 (jD od ds (hg (d,od) (Jk _ JB)) hx hd hk hp hn) (by simp) λh' hx'=>hQ h' t λb ob hb q=>hx' b ob (λz=>hb (by rw[z];simp)) q
 ·intro A s h t hs hq9 hg Q E hQ
  refine e2_1 hq9 λok ov er3=> ?_
  clear hq9
  obtain rfl:=er3
  have hT:(At s h t).TypeIs (.ref it) "dict_itemiterator":=(az _ (hg (it,oY d _ J2g ep ok ov) JB) rfl)
  refine JCY hT J85 (J1X J85 hT jJ ?_ (by unfold JEK;kernel_rfl))
  exact JI (sm _ rfl ("dict_itemiterator") _ hT F.slot_dict_itemiterator_next.lookup hQ)
set_option tactic.hygienic true in
theorem nA {o:Expr}{apos pos:Pos}{vo:VC EV}(ho:Sem Γ n o vo) (ht:cO Γt n (.Tuple elts kk tpos) vc) (pl:Env->J1M Bool)
  (he:∀env,eval (.Call (.Attribute o "items" apos) [] [] pos) env=(do
   let ov <- eval o env
   standAt J8g
   let (f,first) <- holding [ov] (getMethod ov "items" (pl env))
   J2C pos f first (J00 pos (Je [] env)) (J4Y pos (J2V [] env)))):
  dQ Γ Γt n (.Call (.Attribute o "items" apos) [] [] pos) (.Tuple elts kk tpos) (vt2 vc) (λst P=>vo st λe st1=>aj (oX e) λi=>aj (slB BW i st1) λas=>aj (uA as) λitems=>P (items,λy=>True) { st1 with sl:=upd st1.sl i .dead }):=by
 intro w A env X C st T vs s h t Q E P H hv hQ
 refine dq (pl:=pl env) (ho C H hv λev v st1 h1 t1 H1 hv1=> ?_) (he env)
 refine e1_2 (ah hv1) λi qp hv2=> ?_
 obtain rfl:=iR qp
 refine e1_2 (ah hv2) λas qa hv4=> ?_
 refine e1_2 (vR qa) λso q qs=> ?_
 clear qp
 obtain rfl:=yu qs
 clear hv1 hv2 qa qs
 refine e1_2 (ah hv4) λitems qi hv3=> ?_
 have hty:BP (.loc i) st1=some "dict":=by show (nth st1.sl i).bind DW=_;rw[q];rfl
 refine J9 H1 λN own ρ m R=> ?_
 refine e0_2 Jg λz zs=> ?_
 refine e0_2 (R.tyIs J1q z hty (s:=s) (t:=t1)) λq1 q2=> ?_
 clear R z
 obtain⟨d,od,ds,ep,kvs,rfl,lo,hx,hd,hk,hp,hn,hkn,H2⟩:=H1.slotHeld q
 have g2:=JD3 (p:=(d,od)) JB
 have hlt:=Jo g2
 refine av (JCl (s:=At s h1 t1) q1 PySem.F.plainAttrs_dict JA4 PySem.F.type_dict_items q2 ?_)
 refine eR (args:=[]) rfl (fk (fV ?_))
 refine av (JAp (s:=At s h1 t1) JA4 q1 PySem.F.entry_dict_items (PySem.F.args_dict_items_1 _) (meets_dict_items (SK w) d lo) ⟨(dw kvs od ds ep g2 hx hd hk hp hn),?_⟩)
 have hz:(J6g { cls:=.type "dict_items",data:=.fields #[.ref d] }).objs.size=Jz+1:=J10 ..
 refine av (wpAny_pyIter_items (knd:=SK w) (s:=At s (J6g { cls:=.type "dict_items",data:=.fields #[.ref d] }) t1) (d:=d) (kvs:=kvs) (ep:=ep) (i_eaa _ (J09 _ rfl) rfl rfl) (jD od ds (JY _ g2) hx hd hk hp hn) ?_)
 have H3:=(H2.keeps λb o e=>JY { cls:=.type "dict_items",data:=.fields #[.ref d] } e).holdOne (oY d 0 J2g ep .none .none) rfl
 refine hQ _ _ _ _ _ _ _ _ _ t1 ?_ (CK (it:=(J6g { cls:=.type "dict_items",data:=.fields #[.ref d] }).objs.size) ht (by rw[hz];exact J3c (J38 hlt)) hx hd hk hp hn hkn qi) (ic (.none) (.none) rfl) H3 hv3
 have:=JD J4p hkn
 simpa using JAT
end
section
variable {M:Model}{A:Around}{α:Type}{Q:α->Shared->Prop}{E:Value->Shared->Prop}{s:Shared}{c:Prop}[Decidable c] {a b:PySem.Sem α}
theorem vM (hc:¬c) (h:ae M A b Q E s):ae M A (if c then a else b) Q E s:=by rw[JL hc];exact h
end
abbrev baO (b:Array UInt8):Obj:={ cls:=.type "bytearray",data:=.bytearray b 0 }
section
variable {w:World}{A:Around}{E:Value->Shared->Prop}{s:Shared}
theorem Bt:mroOf (.type "bytearray")=pure [.type "bytearray",.type "object"]:=by rw[mroOf_type];kernel_rfl
theorem oq:J31 (.type "bytearray") "__new__"=pure (some (.builtin "bytearray.__new__")):=by rw[J16,J0Y];kernel_rfl
theorem fu:Slot "bytearray" "__init__" "bytearray.__init__":=
 .of (owner:="bytearray") (n:="__init__") (by rw[J16,J0Y];kernel_rfl) (by decide+kernel) (by decide+kernel) (by decide+kernel)
  (by first|exact .inl (by decide+kernel)|exact .inr (by decide+kernel)) (by rw[J9C];kernel_rfl)
theorem jO:JDy (.type "bytearray") (.type "bytearray")=pure true:=by rw[J9C];kernel_rfl
theorem xX:TypeCalled "bytearray" "bytearray.__new__" "bytearray.__init__":=
 ⟨by decide+kernel,by decide+kernel,(ic _ _ Bt),madeBy_type Bt oq (by decide+kernel),by decide+kernel,jO,fu⟩
theorem vj:J2a "bytearray.__new__" ⟨[.type "bytearray"],[]⟩=pure ():=by kernel_rfl
theorem qL:J73 table "bytearray.__new__"=some Builtin.«list.__new__»:=JF5 (id':="list.__new__") (by kernel_rfl) rfl (by decide+kernel) (by kernel_rfl)
theorem ot:J73 table "bytearray.__init__"=some Builtin.«bytearray.__init__»:=by first|exact JDJ (by kernel_rfl)|exact JDI (by kernel_rfl)
theorem qM (a:Value):JEK "bytearray.__init__" ⟨[a],[]⟩:=by unfold JEK;kernel_rfl
theorem Bv:Builtin.Bytes.bindOptional "bytearray.__init__" "bytearray" ["source","encoding","errors"] [] []=pure [none,none,none]:=by kernel_rfl
theorem EN:J31 (.type "bytearray") "__release_buffer__"=pure (some (.builtin "bytearray.__release_buffer__")):=by rw[J16,J0Y];kernel_rfl
theorem vm:J31 (.type "bytearray") "__buffer__"=pure (some (.builtin "bytearray.__buffer__")):=by rw[J16,J0Y];kernel_rfl
theorem qK:plainId "bytearray.__new__"=true:=by decide+kernel
theorem s3 {Q₁:Value->J1->Prop}(h:Q₁ (.ref JS) { s with heap:=J0T (baO #[]) }):JFj (model prog0 w) A (.call (.builtin "bytearray.__new__") ⟨[.type "bytearray"],[]⟩) (wants Q₁ E) s:=by
 obtain⟨hp,g,d,tk,os⟩:=s
 refine PySem.codeAny_of_tree ?_
 refine kB (J0C vj (JI ⟨plainId_quiet qK _,codeAny_builtin_stack qL rfl λp st=> ?_⟩))
 have hsub:=jO
 have hown:("bytearray.__new__".splitOn ".__new__").headD ""="bytearray":=by rw[split_bytearray];rfl
 simp only [hown]
 wp_walk
 exact h
theorem gW {a:Addr}{b:Array UInt8}{Q:Bool->J1->Prop}(ho:Jr a=some (baO b)) (h:Q false s):JF (model prog0 w) A (J3e (.ref a)) Q E s:=by
 have hT:J6D (.ref a) "bytearray":=(az _ ho rfl)
 unfold J3e J1t
 refine kB (kB (J0F hT EN ?_))
 have e:("bytearray.__release_buffer__".endsWith ("."++"__release_buffer__"))=true:=by decide+kernel
 have e2:"bytearray.__release_buffer__".dropRight ("__release_buffer__".length+1)="bytearray":=by decide+kernel
 refine kq ?_
 dsimp only
 rw[e,e2]
 exact J0r rfl (J3O hT jO (JI h))
theorem mH {a:Addr}{b:Array UInt8}{Q:Array UInt8->J1->Prop}(ho:Jr a=some (baO b)) (h:Q b s):JF (model prog0 w) A (JBB (.ref a)) Q E s:=by
 unfold JBB Builtin.Bytes.payload?
 exact kB (kB (J2d ho (JI (JI h))))
theorem vk {a:Addr}{b:Array UInt8}{Q:Nat->J1->Prop}(ho:Jr a=some (baO b)) (h:Q 0 s):JF (model prog0 w) A (J5X (.ref a)) Q E s:=by
 unfold J5X
 exact kB (J2d ho (JI h))
theorem CB {id:J23}(h1:J0B id=false) (h2:J1k id=false) {s:J23}(hs:(J0B s||J1k s)=true):¬id=s:=λe=>by
 subst e
 rw[h1,h2] at hs;cases hs
theorem sZ {v:Value}{Q:Bool->J1->Prop}(h:Q false s):ae (model prog0 w) A (J5i v) Q E s:=by
 unfold J5i
 refine aa (q7 λst hst y=>af ?_)
 have key:∀(f:Code×Pos->Bool),(∀c p,okC c=true->f (c,p)=false)->Q (st.any f) s:=λf hf=>by
  have:st.any f=false:=List.any_eq_false.mpr λx hx=>by
   rw[hf x.1 x.2 (J6p hst x hx)];exact J1U
  rw[this];exact h
 refine key _ λc p hc=> ?_
 clear key hst h
 delta Builtin.Bytes.exported.match_1
 cases c with
 |builtin id args=>
  have hc:(!(J0B id||J1k id))=true:=hc
  obtain⟨g1,g2⟩:=Bool.or_eq_false_iff.mp ((Bool.not_eq_true' _).mp hc)
  have n:∀{s:J23},(J0B s||J1k s)=true->¬id=s:=CB g1 g2
  refine (JBh (n (by decide+kernel))).trans ((JBh (n (by decide+kernel))).trans ((JBh (n (by decide+kernel))).trans ((JBh (n (by decide+kernel))).trans ((JBh (n (by decide+kernel))).trans ?_))))
  obtain⟨pos,kw⟩:=args
  clear hc
  cases pos with
  |nil=>rfl
  |cons u r=>
   show (Builtin.Bytes.sameRef u v&&J0B id)=false
   rw[g1,Bool.and_false]
 |_=>rfl
theorem mF {a:Addr}{b:Array UInt8}{f:Array UInt8->Array UInt8}{Q:Unit->J1->Prop}(ho:Jr a=some (baO b)) (hz:(f b).size<=J1g) (h:∀h',J0m a JG h'->JW a=some (baO (f b))->Q () { s with heap:=h' }):JF (model prog0 w) A (J6s (.ref a) f) Q E s:=by
 show JF _ _ (JDa a f) _ _ _
 unfold JDa
 refine kB (J2d ho ?_)
 show JF _ _ (update a (J7z f)>>=λy=>lookBehind a) _ _ _
 refine kB (PySem.wpAny_update ho ?_)
 have hS:(J3j a (J7z f)).get? a=some (baO (f b)):=J1f (J7z f) ho rfl
 refine JDE hS ?_ (h _ (J0f ..) hS)
 show (if (f b).size>J1g then some "bytearray:memory" else none)=none
 rw[JL (J6V hz)]
theorem wk {a:Addr}{b:Array UInt8}{Q:Bool->J1->Prop}(ho:Jr a=some (baO b)) (h:Q false s):
  ae (model prog0 w) A (J5i (.ref a)<||> (do return (<- J5X (.ref a))>0)) Q E s:=by
 refine aa (sZ ?_)
 exact aa (av (vk ho (af h)))
theorem xV {a:Addr}{b:Array UInt8}{Q:Unit->J1->Prop}(ho:Jr a=some (baO b)) (h:Q () s):ae (model prog0 w) A (J56 (.ref a)) Q E s:=by
 unfold J56
 refine aa (wk ho ?_)
 refine wI0 rfl ?_
 exact af h
theorem Bu {a:Addr}{Q:Fin->J1->Prop}(ho:Jr a=some (baO #[])) (h:∀h',J0m a JG h'->JW a=some (baO #[])->Q (.done (.ret .none)) { s with heap:=h' }):
  ae (model prog0 w) A (Builtin.«bytearray.__init__» ⟨[.ref a],[]⟩) Q E s:=by
 refine aa (av (gW ho ?_))
 refine vM (by decide) ?_
 refine (Bv).symm▸?_
 refine aa (af ?_)
 refine aa (af (aa (af ?_)))
 refine aa (wk ho ?_)
 refine vM (by decide) ?_
 refine aa (av (mF ho (J1m _) λh' hs ho'=> ?_))
 exact aa (vM (show ¬((none:Option Value).isSome=true) by decide) (vM (show ¬((none:Option Value).isSome=true) by decide) (af (af (h h' hs ho')))))
theorem Bk {Q:Value->J1->Prop}(h:∀h',(∀b o,Jr b=some o->JW b=some o)->JW JS=some (baO #[])->Q (.ref JS) { s with heap:=h' }):ae (model prog0 w) A (call (.type "bytearray") []) Q E s:=by
 refine bB (aN ?_)
 refine af (a:=Fin.again (.builtin "type.__call__" ⟨[.type "bytearray"],[]⟩)) ⟨J2u _ (by decide+kernel),codeAny_builtin F.entry_type_call ?_ (by show (!(J0B "type.__call__"||J1k "type.__call__"))=true;decide+kernel)⟩
 dsimp only
 refine aa (af ?_)
 refine aa (af ?_)
 refine (xX.made).symm▸?_
 refine aa (af (aa (af ?_)))
 refine aa (ai (bB (FT (PySem.codeAny_mono (s3 (Q₁:=λv s'=>v=.ref JS/\s'={ s with heap:=J0T (baO #[]) }) (E:=λe s'=>False) ⟨rfl,rfl⟩) λr s' hr=> ?_))))
 rcases r with e|(v|_|_|_)<;>first|exact JH5|skip
 refine e0_2 hr λer0 er1=> ?_
 clear hr
 obtain rfl:=er0
 obtain rfl:=er1
 have ho:(J0T (baO #[])).get? JS=some (baO #[]):=J09 _ rfl
 have hT:({ s with heap:=J0T (baO #[]) }:J1).TypeIs (.ref JS) "bytearray":=(az _ ho rfl)
 refine aa (av (J3O hT jO ?_))
 refine aa (ai ?_)
 refine aa (av (J0F hT fu.lookup ?_))
 refine ai ?_
 refine aa (af (aa (bB ?_)))
 refine bV (J2u _ (by decide+kernel)) ot (av (fu.check _ _ _ _ _ _ _ _ hT (qM _) ?_)) (by show (!(J0B "bytearray.__init__"||J1k "bytearray.__init__"))=true;decide+kernel)
 refine Bu (s:={ s with heap:=J0T (baO #[]) }) ho λh' hs ho'=> ?_
 refine af (af ?_)
 exact h h' (λb o e=>hs.extBut _ _ (J0O (Jo e)) (JY _ e)) ho'
theorem gh:Slot "bytearray" "extend" "bytearray.extend":=
 .of (owner:="bytearray") (n:="extend") (by rw[J16,J0Y];kernel_rfl) (by decide+kernel) (by decide+kernel) (by decide+kernel)
  (by first|exact .inl (by decide+kernel)|exact .inr (by decide+kernel)) jO
theorem kU:J73 table "bytearray.extend"=some Builtin.«bytearray.extend»:=by first|exact JDJ (by kernel_rfl)|exact JDI (by kernel_rfl)
theorem mI (a b:Value):JEK "bytearray.extend" ⟨[a,b],[]⟩:=by unfold JEK;kernel_rfl
theorem mG:JDb (.builtin "bytearray.extend")=pure (.type "method_descriptor"):=by show builtinType _=_;rw[builtinType_eq_fast];kernel_rfl
theorem qH:JDy (.type "bytes") (.type "bytes")=pure true:=by rw[J9C];kernel_rfl
theorem jN:J31 (.type "bytes") "__buffer__"=pure (some (.builtin "bytes.__buffer__")):=by rw[J16,J0Y];kernel_rfl
theorem EK:J31 (.type "bytes") "__release_buffer__"=pure none:=by rw[J16,J0Y];kernel_rfl
theorem Br {c:Array UInt8}{t:Tok}{Q:Bool->J1->Prop}(h:Q true s):JF (model prog0 w) A (J1t (.bytes c t) "__buffer__") Q E s:=by
 unfold J1t
 refine kB (J0F (J1u s c t) jN ?_)
 have e:("bytes.__buffer__".endsWith ("."++"__buffer__"))=true:=by decide+kernel
 have e2:"bytes.__buffer__".dropRight ("__buffer__".length+1)="bytes":=by decide+kernel
 refine kq ?_
 dsimp only
 rw[e,e2]
 exact J0r rfl (J3O (J1u s c t) qH h)
theorem u6 {c:Array UInt8}{t:Tok}{Q:Bool->J1->Prop}(h:Q false s):JF (model prog0 w) A (J3e (.bytes c t)) Q E s:=by
 unfold J3e J1t
 exact kB (kB (J0F (J1u s c t) EK (JI (JI h))))
theorem xP {c:Array UInt8}{t:Tok}{id:J23}{full:Bool}{Q:Option (Array UInt8)->J1->Prop}(h:Q (some c) s):JF (model prog0 w) A (J69 id (.bytes c t) full) Q E s:=by
 have hT:=J1u s c t
 refine kB (J0F hT jN ?_)
 refine kB (Br ?_)
 refine J0r rfl ?_
 refine kB (J0F hT jN ?_)
 refine kB (u6 ?_)
 refine J0r rfl ?_
 exact kB (J0C (a:=c) rfl (JI h))
theorem C4 {c:Array UInt8}{t:Tok}{id:J23}{Q:Option (Array UInt8×Option Value)->J1->Prop}(h:Q (some (c,none)) s):JF (model prog0 w) A (Builtin.Bytes.takeBufferQuiet? id (.bytes c t) 0) Q E s:=by
 have hT:=J1u s c t
 refine kB (J2W ?_)
 refine kB (J0F hT jN ?_)
 refine kB (Br ?_)
 refine J0r rfl ?_
 refine kB (J0F hT jN ?_)
 exact kB (xP (JI (JI h)))
theorem mC {a:Addr}{b c:Array UInt8}{t:Tok}{Q:Value->J1->Prop}(ho:Jr a=some (baO b)) (hz:(b++c).size<=J1g) (h:∀h',J0m a JG h'->JW a=some (baO (b++c))->Q .none { s with heap:=h' }):
  ae (model prog0 w) A (call (.builtin "bytearray.extend") [.ref a,.bytes c t]) Q E s:=by
 refine bB (bV (J2u _ (by decide+kernel)) kU (av (gh.check _ _ _ _ _ _ _ _ ((az _ ho rfl)) (mI _ _) ?_)) (by show (!(J0B "bytearray.extend"||J1k "bytearray.extend"))=true;decide+kernel))
 refine aa (af (a:=(J4G a,Value.bytes c t)) ?_)
 refine aa (av (J0F (J1u s c t) jN ?_))
 refine aa (dU (aa (av (mH ho ?_))))
 refine aa (av (C4 ?_))
 show ae _ _ (if (!c.isEmpty)=true then (do J56 (.ref a);J6s (.ref a) (·++c);ret .none) else (do J6s (.ref a) (·++c);ret .none)) _ _ _
 cases (!c.isEmpty) with
 |false=>exact aa (av (mF ho hz λh' hs ho'=>af (h h' hs ho')))
 |true=>exact aa (xV ho (aa (av (mF ho hz λh' hs ho'=>af (h h' hs ho')))))
theorem Bs:J31 (.type "bytes") "__bytes__"=pure (some (.builtin "bytes.__bytes__")):=by rw[J16,J0Y];kernel_rfl
theorem u7 {v:Value}{Q:Value->J1->Prop}(hb:∀{R:PySem.Fin->J1->Prop}{E':Value->J1->Prop}{A':J7},(∀u s',(∃x y,u=.bytes x y)->Q u s'->R (.done (.ret u)) s')->JF (model prog0 w) A' (Builtin.«bytes.__new__» ⟨[.type "bytes",v],[]⟩) R E' s):
  JF (model prog0 w) A (call (.type "bytes") [v]) Q E s:=by
 refine J9D F.bm_called (by decide) (F.bm_typeCall _) (F.bm_newCall _) (λobj=>JBR obj _) F.bm_entry
  (S:=λA R s'=>s'=s/\∀u s'',(∃x y,u=.bytes x y)->Q u s''->R (.ok (.ret u)) s'') (.of_wp λA R s' hR=> ?_) ⟨rfl,λu s'' hu hq=>⟨?_,hq⟩⟩
 ·obtain⟨rfl,hR⟩:=hR
  exact hb λu s'' hu hq=>(az u rfl (hR u s'' hu hq))
 ·refine e2_1 hu λx y er0=> ?_
  clear hu
  obtain rfl:=er0
  exact J1u _ _ _
theorem sV {b:Array UInt8}{t:Tok}{Q:Value->J1->Prop}(h:Q (.bytes b t) s):JF (model prog0 w) A (call (.type "bytes") [.bytes b t]) Q E s:=by
 refine u7 λ{R E' A'} hR=> ?_
 have hT:=J1u s b t
 refine kB (J0C (a:=true) rfl (J0r rfl ?_))
 refine kB (J0C qH (J0r rfl ?_))
 refine kB (J0C (JEn _) ?_)
 refine kB (J0C (a:=()) rfl ?_)
 refine kB (J0C (a:=()) rfl ?_)
 refine J0r rfl ?_
 refine kB (J0F hT Bs ?_)
 refine kB (J2c ?_)
 refine kB (J0C (a:=.type "bytes") rfl (J7c (by decide) ?_))
 exact J7c (by decide) (kB (JI (JI (hR _ _ (ic b t rfl) h))))
theorem vh:J31 (.type "bytearray") "__bytes__"=pure none:=by rw[J16,J0Y];kernel_rfl
theorem vg:J31 (.type "bytearray") "__index__"=pure none:=by rw[J16,J0Y];kernel_rfl
theorem Ay:J31 (.type "int") "__bytes__"=pure none:=by rw[J16,J0Y];kernel_rfl
theorem sU {n:Int}{t:Tok}{Q:Value->J1->Prop}(h0:0<=n) (h1:n<=65536) (h:Q (.bytes (Array.replicate n.toNat 0) J3E) { s with toks:=J3E+1 }):JF (model prog0 w) A (call (.type "bytes") [.int n t]) Q E s:=by
 have e1:(!Builtin.Bytes.fitsIndex n)=false:=by
  unfold Builtin.Bytes.fitsIndex
  rw[Bool.not_eq_false',J1r]
  exact⟨Jq (by omega),Jq (by omega)⟩
 refine u7 λ{R E' A'} hR=> ?_
 have hT:=typeIs_int s n t
 refine kB (J0C (a:=true) rfl (J0r rfl ?_))
 refine kB (J0C qH (J0r rfl ?_))
 refine kB (J0C (JEn _) ?_)
 refine kB (J0C (a:=()) rfl ?_)
 refine kB (J0C (a:=()) rfl ?_)
 refine J0r rfl ?_
 refine kB (J0F hT Ay ?_)
 refine kB (J0C (a:=false) rfl (J0r rfl ?_))
 refine kB (J0F hT F.slot_int_index.lookup ?_)
 refine J0r rfl ?_
 refine kB (J2W (J0C (rfl:asIndex (.int n t)=pure n) ?_))
 refine J0r e1 (J18 (J0K (J6X h0)) (J18 (J0K (by omega)) (J18 (J0K (by unfold Builtin.Bytes.tooLong;rw[J1v,J3U];exact z01 0x1001010011010000007f89307100005f8002 h1 fT)) ?_)))
 refine kB (J2c (kB (JFH ?_ (by rw[Array.size_replicate,J3U];exact z01 0x100101001110000007f80807100005f8002 h1 fT))))
 exact J7c (by decide) (kB (JI (JI (hR _ _ (ic _ _ rfl) h))))
theorem xW {a:Addr}{b:Array UInt8}{Q:Bool->J1->Prop}(ho:Jr a=some (baO b)) (h:Q true s):JF (model prog0 w) A (J1t (.ref a) "__buffer__") Q E s:=by
 have hT:J6D (.ref a) "bytearray":=(az _ ho rfl)
 unfold J1t
 refine kB (J0F hT vm ?_)
 have e:("bytearray.__buffer__".endsWith ("."++"__buffer__"))=true:=by decide+kernel
 have e2:"bytearray.__buffer__".dropRight ("__buffer__".length+1)="bytearray":=by decide+kernel
 refine kq ?_
 dsimp only
 rw[e,e2]
 exact J0r rfl (J3O hT jO h)
theorem xY {a:Addr}{b:Array UInt8}{id:J23}{full:Bool}{Q:Option (Array UInt8)->J1->Prop}(ho:Jr a=some (baO b)) (h:Q (some b) s):JF (model prog0 w) A (J69 id (.ref a) full) Q E s:=by
 have hT:J6D (.ref a) "bytearray":=(az _ ho rfl)
 unfold J69
 refine kB (J0F hT vm ?_)
 refine kB (xW ho ?_)
 refine J0r rfl ?_
 refine kB (J0F hT vm ?_)
 refine kB (gW ho ?_)
 refine J0r rfl ?_
 exact kB (mH ho (JI h))
theorem Bp {a:Addr}{b:Array UInt8}{Q:Value->J1->Prop}(ho:Jr a=some (baO b)) (hz:JGK<=J1g) (h:Q (.bytes b J3E) { s with toks:=J3E+1 }):JF (model prog0 w) A (call (.type "bytes") [.ref a]) Q E s:=by
 refine u7 λ{R E' A'} hR=> ?_
 have hT:J6D (.ref a) "bytearray":=(az _ ho rfl)
 refine kB (J0C (a:=true) rfl (J0r rfl ?_))
 refine kB (J0C qH (J0r rfl ?_))
 refine kB (J0C (JEn _) ?_)
 refine kB (J0C (a:=()) rfl ?_)
 refine kB (J0C (a:=()) rfl ?_)
 refine J0r rfl ?_
 refine kB (J0F hT vh ?_)
 refine kB (kB ?_)
 refine kB (J2d ho ?_)
 refine JI (JI (J0r rfl ?_))
 refine kB (J0F hT vg ?_)
 refine J7c rfl ?_
 refine kB (xY ho ?_)
 refine kB (J2c (kB (JFH ?_ hz)))
 exact J7c (by decide) (kB (JI (JI (hR _ _ (ic _ _ rfl) h))))
end
end Internal
namespace MX
abbrev bmX (P:Addr):List Value:=[.ref P,.type "Exception",.type "BaseException",.type "object"]
theorem has_exc (C P:Addr):(J4G C::bmX P).contains (.type "Exception")=true:=by simp
theorem has_base (C P:Addr):(J4G C::bmX P).contains (.type "BaseException")=true:=by simp
theorem no_attr (C P:Addr):(J4G C::bmX P).contains (.type "AttributeError")=false:=by simp
theorem no_name (C P:Addr):(J4G C::bmX P).contains (.type "NameError")=false:=by simp
theorem has_self (C P:Addr):(J4G C::bmX P).contains (.ref C)=true:=by simp
section
variable {prog:Program}{w:World}{A:Around}{R:Result->Shared->Prop}{E:Value->Shared->Prop}{h:Heap}{g:Array GenState}{d:Drawn}{t:Nat}{os:OsState}
variable {nm q:Str}{C N P:Addr}{bs:List Value}{hdct:Bool}{sn:List Str}{sub:List Value}{ab:Bool}{col:Option Bool}{dd:Option Addr}{k0 k1 k2 k3 k5:Option Value}
theorem check_new {rest:List Value}{Q:Unit->J1->Prop}{M:Model}(hC:JN C=some (J2x nm q C N bs (bmX P) hdct sn sub ab col dd k0 k1 k2 k3 k5 "Exception.__new__"))
  (hq:Q () ⟨h,g,d,t,os⟩):wpAny M A (J2a "Exception.__new__" ⟨.ref C::rest,[]⟩) Q E ⟨h,g,d,t,os⟩:=by
 have F:=J2A
 unfold J2a
 repeat (first|refine J1a hC ?_|rewrite [F.newKind]|rewrite [F.newSplit]|rewrite [F.newRow]|(refine J3S hC ?_;rewrite [JH8])|refine wpAny_staticBase_exc hC ?_|refine JDD hC ?_|simp only [bne_self_eq_false,JCW,JCC]|wp_step)
 exact hq
theorem exc_new {rest:List Value}(hC:JN C=some (J2x nm q C N bs (bmX P) hdct sn sub ab col dd k0 k1 k2 k3 k5 "Exception.__new__"))
  (hq:R (.ok (.ret (.ref (JM+1)))) ⟨(J2R { cls:=.type "tuple",data:=.seq J5o }).push
   { cls:=.ref C,data:=.fields #[.ref JM,.none,.none,.none,.bool false,.none] },g,d,t,os⟩) (hrest:J3W<=J1g):
  codeAny (model prog w) A (.builtin "Exception.__new__" ⟨.ref C::rest,[]⟩) R ⟨h,g,d,t,os⟩:=by
 have F:=J2A
 have hends:=F.ends
 refine codeAny_builtinAt F.entry ?_
 refine JEW ?_
 refine JEW (PySem.wpAt_stack λp below=>JBo ?_)
 wp_walk
 refine JBo ?_
 refine (F.owner).symm▸?_
 repeat (first|with_reducible refine wpAny_madeHere_exc F.canon hC ?_|with_reducible refine J1a hC ?_|(with_reducible refine J3S hC ?_;first|rewrite [JH8]|rw[no_attr]|rw[no_name])|wp_step)
 show R _ _
 rw[J10]
 exact hq
theorem type_call {K:Frag}{rest:List Value}{fI:Addr}{Q:Fin->J1->Prop}(hC:JN C=some (J2x nm q C N bs (bmX P) hdct sn sub ab col dd k0 k1 k2 k3 k5 "Exception.__new__"))
  (X:JAC h) (hi:J3z K (.ref C) "__init__"=some (some (.ref fI))) (hf:JC4 K (.ref fI)=some (.type "function"))
  (hq:∀h' e,JFC h h' e (.ref C) rest->
   wpAny (model prog w) A (call (.ref fI) (.ref e::rest)) (λr s'=>r=.none/\Q (.done (.ret (.ref e))) s') E ⟨h',g,d,t,os⟩) (hrest:J3W<=J1g):
  wpAny (model prog w) A (Builtin.«type.__call__» ⟨.ref C::rest,[]⟩) Q E ⟨h,g,d,t,os⟩:=by
 have F:=J2A
 repeat (first|with_reducible refine J1a hC ?_|with_reducible refine JDD hC ?_|wp_step)
 refine codeAny_call_builtin_code (J2u _ F.quiet) (check_new hC ?_)
 refine exc_new hC ?_ hrest
 have kp:∀b o,JN b=some o->((J2R { cls:=.type "tuple",data:=.seq J5o }).push { cls:=.ref C,data:=.fields #[.ref JM,.none,.none,.none,.bool false,.none] }).get? b=some o:=
  λb o e=>JY _ (JY _ e)
 have hC1:=kp _ _ hC
 have X1a:=J7d kp
 have hget:((J2R { cls:=.type "tuple",data:=.seq J5o }).push
   { cls:=.ref C,data:=.fields #[.ref JM,.none,.none,.none,.bool false,.none] }).get? (JM+1)=some
   { cls:=.ref C,data:=.fields #[.ref JM,.none,.none,.none,.bool false,.none] }:=by heap_get
 repeat (first|with_reducible refine J1a hget ?_|(with_reducible refine J3S hC1 ?_;rw[has_self])|wp_step)
 refine (JAd X1a hi).here ?_
 refine J9o (J0c ?_)
 refine (bind_fn X1a _ hf).here ?_
 refine J0c (J9P (hq _ (JM+1) ⟨kp,J4U (J4n _),JM,hget,J4U (Jb _),?_⟩) (λr s' hr=> ?_) λy y x=>x)
 ·exact JY _ (JD2 rfl rfl)
 ·obtain⟨rfl,hQ⟩:=hr
  wp_walk
  exact hQ
theorem call_exc {K:Frag}{rest:List Value}{fI:Addr}{Q:Value->J1->Prop}(hC:JN C=some (J2x nm q C N bs (bmX P) hdct sn sub ab col dd k0 k1 k2 k3 k5 "Exception.__new__"))
  (X:JAC h) (hi:J3z K (.ref C) "__init__"=some (some (.ref fI))) (hf:JC4 K (.ref fI)=some (.type "function"))
  (hq:∀h' e,JFC h h' e (.ref C) rest->
   wpAny (model prog w) (J5Y (.builtin "type.__call__" ⟨.ref C::rest,[]⟩)) (call (.ref fI) (.ref e::rest)) (λr s'=>r=.none/\Q (.ref e) s') E ⟨h',g,d,t,os⟩) (hrest:J3W<=J1g):
  wpAny (model prog w) A (call (.ref C) rest) Q E ⟨h,g,d,t,os⟩:=by
 have f1:=tc_lookup
 have f2:=tc_bind (.ref C)
 have hT:(⟨h,g,d,t,os⟩:J1).TypeIs (.ref C) "type":=⟨_,hC,rfl⟩
 refine JCa (codeAny_of_tree ?_)
 show wpAny _ _ (JEF (.ref C) _) _ _ _
 repeat (any_goals (first|assumption|with_reducible refine J1a hC ?_|wp_step))
 refine⟨rfl,?_⟩
 refine codeAny_call_builtin_at (J2u _ (by decide+kernel)) JF4 (wpAny_check_type_call_sub hC (type_call hC X hi hf (λh' e hm=> ?_) hrest))
 exact hq h' e hm
end
end MX
end
section
open PySem PySem.W PyProof.Rows PySem.Calls Builtin Builtin.ObjectAttr
namespace MX
abbrev excObj (C t:Addr):Obj:={ cls:=.ref C,data:=.fields #[.ref t,.none,.none,.none,.bool false,.none] }
inductive Exc (C e:Addr) (h:Heap):Prop
 |mk (oe vs t:_) (e0:JN e=some oe) (e1:JG8=.ref C) (e2:JGz=.fields vs) (e3:vs[0]? =some (.ref t)) (e4:vs[1]? =some .none) (e5:(vs.size=6))
section
variable {prog:Program}{w:World}{A:Around}{R:Result->Shared->Prop}{E:Value->Shared->Prop}
variable {nm q:Str}{C N P:Addr}{bs:List Value}{hdct:Bool}{sn:List Str}{sub:List Value}{ab:Bool}{col:Option Bool}{dd:Option Addr}{k0 k1 k2 k3 k5:Option Value}{K:Frag}
theorem check_init {h:Heap}{g:Array GenState}{d:Drawn}{t:Nat}{os:OsState}{M:Model}{e:Addr}{oe:Obj}{rest:List Value}{Q:Unit->J1->Prop}
  (hC:JN C=some (J2x nm q C N bs (bmX P) hdct sn sub ab col dd k0 k1 k2 k3 k5 "Exception.__new__")) (he:JN e=some oe) (hcls:JG8=.ref C) (hq:Q () ⟨h,g,d,t,os⟩):
  wpAny M A (J2a "Exception.__init__" ⟨.ref e::rest,[]⟩) Q E ⟨h,g,d,t,os⟩:=by
 have F:=J2A
 have hshort:=F.noStar
 simp only [J2a,F.initKind,F.initSplit,F.initRow]
 repeat (first|(with_reducible refine J1a he ?_;rw[hcls])|with_reducible refine J1a hC ?_|(with_reducible refine J3S hC ?_;rw[JH8])|wp_step)
 refine wpAny_onRaise ?_
 rw[show ∀(a b:J23) (n:Nat),Bind.check ⟨.positional,"*","Exception",.self,[⟨"args",.varPos,false⟩]⟩ a b n (J7E (λx=>x.fst) ({ pos:=J4G e::rest }:Args).kw)=pure () from
  λa b n=>check_star_args _ _ _ _ _ _]
 exact J2H hq
theorem init_own {s:J1}{e:Addr}{oe:Obj}{vs:Array Value}{t0:Addr}{rest:List Value}{Q:Value->J1->Prop}
  (hC:Jr C=some (J2x nm q C N bs (bmX P) hdct sn sub ab col dd k0 k1 k2 k3 k5 "Exception.__new__"))
  (he:Jr e=some oe) (hcls:JG8=.ref C) (hd:JGz=.fields vs) (h0:vs[0]? =some (.ref t0))
  (h:Q .none { s with heap:=(J0T { cls:=.type "tuple",data:=.seq J5o }).update e (J7B (·.setIfInBounds 0 (.ref JS))) }) (hrest:J3W<=J1g):
  wpAny (model prog w) A (call (.builtin "Exception.__init__") (.ref e::rest)) Q E s:=by
 have F:=J2A
 obtain⟨hh,g,d,t,os⟩:=s
 refine JCa (JBJ F.init.plain F.initEntry (check_init hC he hcls ?_))
 unfold Builtin.«BaseException.__init__»
 dsimp only
 rw[JL (by simp)]
 unfold newTuple Builtin.BaseException.bexcPut
 have hsz:0<vs.size:=(J87 h0).1
 have he1:=JY (h:=hh) { cls:=.type "tuple",data:=.seq J5o } he
 refine J0c (J1K (J0c (J0c (wpAny_field he1 hd h0 (J0c (J49 he1 hd hsz ?_))))) (by show rest.toArray.size<=J1g;rw[J48];exact hrest))
 exact JGm (J2H h)
set_option tactic.hygienic true in
theorem set_own1 {s:J1}{e:Addr}{oe:Obj}{name:Str}{v:Value}{Q:Unit->J1->Prop}(X:JAC JG)
  (hC:J2F C=some (J2x nm q C N bs (bmX P) true sn sub ab col dd k0 k1 k2 k3 k5 "Exception.__new__"))
  (hs:J3z K (.ref C) "__setattr__"=some (some (.builtin "object.__setattr__"))) (hn:J3z K (.ref C) name=some none)
  (he:Jr e=some oe) (hcls:JG8=.ref C) (hdn:oe.dict=none) (hnc:∀c,JGz≠.cls c)
  (h:∀h' tk,(∀b o,b≠e->Jr b=some o->JW b=some o)->(∃dx,JW e=some { oe with dict:=some dx })->Q () { s with heap:=h',toks:=tk }):
  wpAny (model prog w) A (setAttr (.ref e) name v) Q E s:=by
 have SF:=PySem.F.store_Exception
 obtain⟨hh,g,d,t,os⟩:=s
 have hno:notCls oe=true:=by
  unfold notCls;split
  ·rename_i c hc;exact absurd hc (hnc c)
  ·rfl
 have I:InstAt hh e oe C none:=⟨he,hcls,hno,by rw[hdn];trivial⟩
 refine set_plain (s:=⟨hh,g,d,t,os⟩) X I hs ?_
 have hc:clsIn K C=some { name:=nm,bases:=bs,mro:=.ref C::bmX P,ns:=N,qualname:=q,hasDict:=true,slotNames:=sn,subclasses:=sub,abstract:=ab,collection:=col,hasDel:=false }:=by unfold clsIn;rw[hC]
 have sub:Looks (model prog w) hh (isInstance (.ref e) (.type "object")) true:=I.type.andThen (looks_mroIn X (by unfold mroIn;rw[hc];rfl))
 refine JBJ SF.slot.plain SF.entry (@check_slot (model prog w) _ _ ⟨hh,g,d,t+1,os⟩ "object.__setattr__" "object" "__setattr__" (.ref e) [.str name t,v] [] _ SF.kind SF.split sub (SF.args (.ref e) (.str name t) v) ?_)
 have hm:Looks (model prog w) hh (mroOf (.ref C)) (.ref C::bmX P):=(JH1 X hc).andThen .now
 have L3:Looks (model prog w) hh (storeTaker? none) none:=.now
 have L1:=I.type (M:=model prog w)
 have X':JAC hh:=X
 have LN:=JAd (M:=model prog w) X' hn
 have LC:=JH1 (M:=model prog w) X' hc
 rw[osa_eq,refuse_eq]
 refine J0c (J0c (L1.here (J0c (hm.here ?_))))
 refine J2H (J0c (L1.here (J0c (LN.here (J0c (L3.here ?_))))))
 dsimp only
 refine J0c (J2H (J0c ?_))
 refine J0c (wpAny_loadPart he ?_)
 refine (hcls).symm▸?_
 refine J0c (LC.here ?_)
 rw[hdn,JL (by simp),JL (by simp [typeHasDict])]
 split
 ·rename_i hcd;cases hcd
 split
 ·rename_i c hcd;exact absurd hcd (hnc c)
 have hx1:(JE1 { cls:=.type "dict",data:=.dict #[] }).get? e=some oe:=JY _ he
 have hxs:e≠J2Q:=J0O (Jo he)
 refine J0c (wpAny_alloc' ?_)
 refine J0c (wpAny_update' hx1 ?_)
 refine J2H ?_
 have hgd:((JE1 { cls:=.type "dict",data:=.dict #[] }).update e λo=>{ cls:=J9B,dict:=some J2Q,data:=J2v,slots:=o.slots }).get? J2Q
   =some { cls:=.type "dict",data:=.dict #[] }:=
  (J6q _ _ _ _ hxs.symm).trans (JD2 rfl rfl)
 have hnd:((JE1 { cls:=.type "dict",data:=.dict #[] }).update e λo=>{ cls:=J9B,dict:=some J2Q,data:=J2v,slots:=o.slots }).Ns J2Q (λ_=>none):=
  ⟨_,#[],_,hgd,rfl,λe he=>absurd he (by simp),λ_=>rfl⟩
 refine J0c (J2H (J0c (wpAny_nsSet1 (Heap.Ns1.of_empty hnd) λh' hn' hs'=> ?_)))
 obtain⟨oD,esD,epD,hoD,hdD,hcD⟩:=hn'.count (Within.cons name v Within.nil)
 refine J0c (JDE hoD (by rw[hdD];exact pastItsLine_dict (JJ hcD (by rw[J0w,J30,J3U];omega))) ?_)
 refine J2H ?_
 refine h h' _ (λb ob hbx hb=> ?_) ⟨J2Q,?_⟩
 ·exact (hs'.2 b (J0O (Jo hb))).trans ((J6q _ _ _ _ hbx).trans (JY _ hb))
 ·refine (hs'.2 e hxs).trans (J1f _ hx1 ?_)
  have hfr:=(Heap.get?_some_iff.mp he).2
  obtain⟨oc,od,odt,osl⟩:=oe
  cases odt<;>first|rfl|exact hfr
theorem name_loc {env:Env}{x:Str}{pos:Pos}{v:Value}{s:J1}{g:Heap}{L:Addr}{m:Str->Option Value}{Q:Value->J1->Prop}(hk:J1O=.function) (hx:J34 x=some .local) (hl:J9X=L)
  (F:Fr g L JG m) (hv:m x=some v) (h:Q v s) (hd:Jl ((x==("__debug__":Str))=false) Jn):wpAny (model prog w) A (eval (.Name x pos) env) Q E s:=
 J9R (J6K hk hx (by rw[hl];exact F.ns) hv h) hd
theorem name_exc {env:Env}{pos:Pos}{s:J1}{g:Heap}{L:Addr}{m mg mb:Str->Option Value}{p:J3Z}{loose:List Str}{Q:Value->J1->Prop}(hk:J1O=.function) (hx:J34 "Exception"=some .globalImplicit) (hg:J4g=J0q) (hb:JAn=J6I)
  (F:Fr g L JG m) (X:JAC g) (T:J8j p loose mg mb g) (hn:nsIn K J0q "Exception"=some none) (h:Q (.type "Exception") s):wpAny (model prog w) A (eval (.Name "Exception" pos) env) Q E s:=
 J2D hk hx (JCB (mg:=mg) (mb:=mb) (by rw[hg];exact T.g.keeps J6Y) (mg_none_of X T.g hn) (by rw[hb];exact T.b.keeps J6Y) ((T.builtins _ (by decide)).trans PyProof.Rows.Boot.«Exception») h)
abbrev pfB:List Stmt:=[.Expr (.Call (.Attribute (.Name "Exception" ⟨8,8,8,17⟩) "__init__" ⟨8,8,8,26⟩) [.Name "self" ⟨8,27,8,31⟩,.Name "why" ⟨8,33,8,36⟩] [] ⟨8,8,8,37⟩) ⟨8,8,8,37⟩,
 .Assign [.Attribute (.Name "self" ⟨9,8,9,12⟩) "why" ⟨9,8,9,16⟩] (.Name "why" ⟨9,19,9,22⟩) ⟨9,8,9,22⟩]
example:Internal.ay (Internal.mS 2 0)=pfB:=rfl
theorem pf_body {kk1 kk2 kk3:Option Value}{env:Env}{s:J1}{g:Heap}{L e t0:Addr}{v:Value}{m mg mb:Str->Option Value}{p:J3Z}{loose:List Str}{Q:Flow->J1->Prop}
  (hk:J1O=.function) (k1:J34 "self"=some .local) (k2:J34 "why"=some .local) (k3:J34 "Exception"=some .globalImplicit) (hg:J4g=J0q) (hb:JAn=J6I) (hl:J9X=L)
  (F:Fr g L JG m) (X:JAC g) (T:J8j p loose mg mb g) (hn:nsIn K J0q "Exception"=some none) (m1:m "self"=some (.ref e)) (m2:m "why"=some v)
  (hC:J2F C=some (J2x nm q C N bs (bmX P) true sn sub ab col dd k0 kk1 kk2 kk3 k5 "Exception.__new__"))
  (ei:findCls K (.type "Exception") (.type "type") "__init__"=some (.val (.builtin "Exception.__init__")))
  (hs:J3z K (.ref C) "__setattr__"=some (some (.builtin "object.__setattr__"))) (hw:J3z K (.ref C) "why"=some none)
  (he:Jr e=some (excObj C t0)) (hne:J3L e=none) (hLe:e≠L)
  (hq:∀h' tk,Fr g L h' m->Exc C e h'->Q .next { s with heap:=h',toks:=tk }):
  wpAny (model prog w) A (execs pfB env) Q E s:=by
 obtain⟨hh,gg,d,t,os⟩:=s
 refine J7v (wpAny_Expr_any (methodCall_KW (pl:=do return (<- importBound (.Name "Exception" ⟨8,8,8,17⟩) env).getD true) ?_ rfl) (by unfold J8Y;rw[hk];rfl) (by rfl))
 refine name_exc hk k3 hg hb F X T hn ?_
 refine method_type F X (by kernel_rfl) (by decide+kernel) ei (by decide+kernel) ?_
 refine callWith_kw (kws:=[]) ?_
 refine JAW (JCA hk k1 hl F m1 ?_) rfl
 refine JAW (JCA hk k2 hl F m2 ?_) rfl
 refine JG2 ?_
 refine J2H ?_
 refine init_own (J6Y _ _ (X _ _ hC)) he rfl rfl rfl ?_ (by size_fits)
 dsimp only
 generalize hh1:(JE1 { cls:=.type "tuple",data:=.seq [v].toArray }).update e (J7B (·.setIfInBounds 0 (.ref J2Q)))=h1
 have he1:=JY (h:=hh) { cls:=.type "tuple",data:=.seq [v].toArray } he
 have keep1:∀b o,b≠e->J5v b=some o->J8a b=some o:=λb o hb ho=>by
  rw[<- hh1,Heap.get?_update_other _ _ (J2k hb)]
  exact JY _ ho
 have get1:J8a e=some { cls:=.ref C,data:=.fields #[.ref J2Q,.none,.none,.none,.bool false,.none] }:=by
  rw[<- hh1,J1f _ he1 rfl];rfl
 have nE:∀b o,J3L b=some o->b≠e:=λb o ho hb=>by rw[hb,hne] at ho;cases ho
 have up:∀{h':Heap},(∀b o,b≠e->J5v b=some o->JW b=some o)->Fr g L h' m:=λ{h'} k=>by
  obtain⟨oL,es,ep,eL,rL⟩:=F.ns
  exact⟨⟨oL,es,ep,k L oL (J2k hLe) eL,rL⟩,λb o ho=>k b o (nE b o ho) (J6Y b o ho),F.above⟩
 have F1:=up keep1
 refine J7v ?_
 refine plainObj_wpAny_Assign_Attribute ?_ (by rfl)
 refine JCA hk k2 hl F1 m2 ?_
 refine JCA hk k1 hl F1 m1 ?_
 refine set_own1 (J7d F1.keep) hC hs hw get1 rfl rfl (λc z=>by cases z) λh' tk kp ge=> ?_
 refine wpAny_execs_nil (hq h' tk (up λb o hb ho=>kp b o hb (keep1 b o hb ho)) ?_)
 obtain⟨dx,ge⟩:=ge
 exact⟨_,_,_,ge,rfl,rfl,rfl,rfl,rfl⟩
end
end MX
namespace MX
abbrev prog0:J3Z:=Internal.prog0
abbrev pfS:Scope:=Internal.ao (Internal.mS 2 0)
section
variable {w:World}{A A0a:Around}{R:Result->Shared->Prop}{E:Value->Shared->Prop}{K:Frag}
variable {env:Env}{outer:List Env}{base g:Heap}{s:Shared}{L:Addr}{m mg mb:Str->Option Value}{p:Program}{loose:List Str}
theorem pf_call {e t0:Addr}{v:Value}(k:JA6 w K) (B:Below A0a base outer g) (F:Fr g L JG m) (X:JAC g) (T:J8j p loose mg mb g) (hA:J3w=some (env::outer)) (hf:J3M=some L) (hke:J1O=.function)
  (room:J6u<J27) (he:Jr e=some (excObj 63 t0)) (hne:J3L e=none) (hLe:e≠L)
  (hR:∀h' tk,Fr g L h' m->Exc 63 e h'->R (.ok (.ret .none)) { s with heap:=h',toks:=tk }):
  codeAny (model prog0 w) A (.call (.ref 35) ⟨[.ref e,v],[]⟩) R s:=by
 obtain⟨nm,q,N,bs,sn,sub,ab,col,dd,k0,k1,k2,k3,k5,hC⟩:=J8X
 obtain⟨oc,od,osl,name,params,dV,kV,doc,pm,an,cdv,ct,hlk,hcd,hbind⟩:=Internal.kFn 0 rfl w K k
 have KI:JAC JG:=J7d J6Y
 have N1:News g L JG [(e,excObj 63 t0)]:=λp hp=>by
  obtain rfl:=JQ hp
  exact⟨he,hLe,hne⟩
 refine callX_plain (cl:=[]) B F N1 T.nolimit hA hf hke (KI _ _ hlk) rfl (JCn KI hcd) room (hbind _ KI [.ref e,v] rfl) ?_ ?_ ?_ (by rfl) (by rfl) (by rfl)
 ·intro y hy
  rcases Jf hy with rfl|hy
  ·rfl
  ·obtain rfl:=JQ hy;rfl
 ·intro g' L' h1a FG F' N' B' st lt
  have X':JAC g':=J7d st
  refine pf_body (C:=63) (P:=38) (L:=L') (g:=g') (e:=e) (t0:=t0) (v:=v) (K:=K) rfl rfl rfl rfl rfl rfl rfl F' X' (T.keeps st) (k.blt "Exception" (by decide)) rfl rfl hC k.exc.ei k.exc.sa k.exc.why (N' _ JB).1 (N' _ JB).2.2 (N' _ JB).2.1 λh' tk Fz ex=> ?_
  obtain⟨oe,vs,t,e1,e2,e3,e4,e5,e6⟩:=ex
  refine⟨L',_,[(e,oe)],Fz,λp hp=> ?_,λF2 N2=> ?_⟩
  ·obtain rfl:=JQ hp
   exact⟨e1,(N' _ JB).2⟩
  ·exact hR h' tk F2 ⟨oe,vs,t,e1,e2,e3,e4,e5,e6⟩
 ·decide
theorem misused_made {v:Value}{Q:Value->J1->Prop}(k:JA6 w K) (B:Below A0a base outer g) (F:Fr g L JG m) (X:JAC g) (T:J8j p loose mg mb g) (hA:J3w=some (env::outer)) (hf:J3M=some L) (hke:J1O=.function)
  (room:J6u+1<J27)
  (hQ:∀h' tk e,Fr g L h' m->Exc 63 e h'->J3L e=none->e≠L->Q (.ref e) { s with heap:=h',toks:=tk }):
  wpAny (model prog0 w) A (call (.ref 63) [v]) Q E s:=by
 obtain⟨nm,q,N,bs,sn,sub,ab,col,dd,k0,k1,k2,k3,k5,hC⟩:=J8X
 have KI:JAC JG:=J7d J6Y
 obtain⟨hh,gg,d,t,os⟩:=s
 refine call_exc (P:=38) (KI _ _ hC) KI k.exc.init k.exc.ty (λh' e hm=> ?_) (by size_fits)
 obtain⟨t0,e1,e2,e3⟩:=hm.there
 have F':Fr g L h' m:=F.keeps hm.keeps
 have hne:J3L e=none:=by
  cases q:J3L e with
  |none=>rfl
  |some o=>have:=J6Y _ _ q;rw[hm.new] at this;cases this
 have hLe:e≠L:=λz=>by
  obtain⟨oL,es,ep,eL,rL⟩:=F.ns
  have h2:=hm.new
  rw[z] at h2
  have eL':J5v L=some oL:=eL
  rw[h2] at eL';cases eL'
 refine JCa (pf_call k B F' X T (A:=J5Y (.builtin "type.__call__" ⟨[.ref 63,v],[]⟩)) hA hf hke ?_ e1 hne hLe λh'' tk F2 ex=> ?_)
 ·rw[JF6];exact room
 ·exact⟨rfl,hQ h'' tk e F2 ex hne hLe⟩
inductive ExcCls (h:Heap):Prop
 |mk (nm q N bs sn sub ab col dd k0 k1 k2 k3 k5:_) (e0:JN 63=some (J2x nm q 63 N bs (bmX 38) true sn sub ab col dd k0 k1 k2 k3 k5 "Exception.__new__"))
theorem exc_cls (k:JA6 w K) {h:Heap}(X:JAC h):ExcCls h:=by
 obtain⟨nm,q,N,bs,sn,sub,ab,col,dd,k0,k1,k2,k3,k5,hC⟩:=J8X
 exact⟨nm,q,N,bs,sn,sub,ab,col,dd,k0,k1,k2,k3,k5,X _ _ hC⟩
theorem raise_stmt {x:Sem Value}{Q:Flow->J1->Prop}(hh:J3v=none)
  (h:wpAny (model prog0 w) A x (λv s1a=>∃e,v=.ref e/\ExcCls J46/\Exc 63 e J46/\E (.ref e) s1a) E s):
  wpAny (model prog0 w) A (raiseStmt env (some x) none) Q E s:=by
 unfold raiseStmt
 refine J0c (J9P h (λv s1a h1a=> ?_) λy y x=>x)
 obtain⟨e,rfl,⟨nm,q,N,bs,sn,sub,ab,col,dd,k0,k1,k2,k3,k5,hC⟩,⟨oe,vs,t,he,hcls,hd,h0,h1,h6⟩,hE⟩:=h1a
 obtain⟨hp,g,d,tk,os⟩:=s1a
 obtain⟨oc,od,odt,osl⟩:=oe
 dsimp only at hcls hd
 subst hcls hd
 repeat (first|with_reducible refine J1a he ?_|with_reducible refine J1a hC ?_|(with_reducible refine J3S hC ?_;rw[has_base])|wp_step)
 refine (h1).symm▸?_
 refine J2H ?_
 exact J2H (wpAny_raiseNew_none hh hE)
theorem raise_own {msg:Str}{kk:Nat}{np cp ap pos:Pos}{Q:Flow->J1->Prop}(k:JA6 w K) (B:Below A0a base outer g) (F:Fr g L JG m) (X:JAC g) (T:J8j p loose mg mb g) (hA:J3w=some (env::outer)) (hf:J3M=some L) (hke:J1O=.function)
  (room:J6u+1<J27) (hh:J3v=none) (hx:J34 "Misused"=some .globalImplicit) (hg:J4g=J0q)
  (hE:∀h' tk e,Fr g L h' m->Exc 63 e h'->J3L e=none->e≠L->E (.ref e) { s with heap:=h',toks:=tk }):
  wpAny (model prog0 w) A (exec (.Raise (some (.Call (.Name "Misused" np) [.Constant (.str msg) kk ap] [] cp)) none pos) env) Q E s:=by
 refine J0c (J9n (raise_stmt hh ?_))
 refine J0c (J9P (Q:=λv s1a=>∃e,v=.ref e/\ExcCls J46/\Exc 63 e J46/\E (.ref e) s1a) (wpAny_Call_ofName ?_) (λv s3a h3a=>J0c (J9n (J2H h3a))) λy y x=>x)
 refine J2D hke hx (J5A (mg:=mg) (by rw[hg];exact T.g.keeps J6Y) (mg_of X T.g (k.glob ("Misused",.ref 63) (by decide))) ?_)
 refine J0c (J9o (J9P (Q:=λa s1a=>a.kw=[]/\(∃t,JFg=[.str msg t])/\∃tk,s1a={ s with toks:=tk }) (evalArgs_kwB (by rfl) (JAW (J3u (JG2 (J2H ⟨rfl,⟨_,rfl⟩,_,rfl⟩))) rfl)) (λa s2a h2a=>J0c (J9n ?_)) λy y x=>x))
 obtain⟨apos,akw⟩:=a
 obtain⟨hkw,⟨t,hpos⟩,tk,rfl⟩:=h2a
 dsimp only at hkw hpos
 subst hkw hpos
 obtain⟨nm,q,N,bs,sn,sub,ab,col,dd,k0,k1,k2,k3,k5,hC⟩:=J8X
 refine J0c (wpAny_keeperOf_exc (J7d J6Y _ _ hC) ?_)
 refine J0c (misused_made k B (F:=F) X T hA hf hke room λh' tk e F' ex hne hl=>J0c (J9o (wpAny_point (J2H ?_))))
 exact⟨e,rfl,exc_cls k (J7d F'.keep),ex,hE h' tk e F' ex hne hl⟩
end
end MX
end
section
open PySem PySem.W PyProof.Rows PySem.Calls Builtin Builtin.ObjectAttr PySem.Spec
namespace MX
abbrev frs (l:List Env):List Addr:=J8U (·.frame)
inductive Thrown (hh:Heap) (l:List Env) (e:Addr) (h':Heap):Prop
 |mk (B t:_) (e0:(∀b o,J5v b=some o->b∉frs l->B.get? b=some o)) (e1:JGc B l e (.ref 63) (.ref t) h') (e2:hh.UpToSlots h')
section
variable {M:Model}{A:Around}{E:Value->Shared->Prop}{s:Shared}{base g:Heap}{env:Env}{outer:List Env}{L e:Addr}{m:Str->Option Value}{Q:Unit->Shared->Prop}
theorem frs_cons (hf:J3M=some L) {b:Addr}:b∈frs (env::outer)↔b=L∨b∈frs outer:=by
 unfold frs
 rw[List.filterMap_cons,hf];simp
theorem own_none {h:Heap}(F:Fr g L h m):J3L L=none:=by
 cases q:J3L L with
 |none=>rfl
 |some o=>exact absurd (J0d (Jo q) F.above) (J0V _)
theorem frames_hide {h:Heap}{as:List Addr}{l:List Env}:JHC base l->(∀b∈frs l,b∈as)->JHC (J3I h as) l:=by
 induction l with
 |nil=>exact λy y=>trivial
 |cons env l ih=>
  intro q hin
  refine Internal.e0_3 q λhk q2 hr=> ?_
  refine Internal.e2_4 q2 λL o hf y ho hd=> ?_
  exact⟨hk,⟨L,o,hf,J5u _ (hin L ((JCF hf).mpr (.inl rfl))),ho,hd⟩,ih hr λb hb=>hin b ((JCF hf).mpr (.inr hb))⟩
theorem leave_first {A0a:J7}(K:Below A0a base outer g) (hA:J3w=some (env::outer)) (hf:J3M=some L) (hk:J1O=.function) (F:Fr g L JG m) (ex:Exc 63 e JG) (hne:J3L e=none) (hLe:e≠L)
  (hQ:∀h',JES g outer e h'->Q () { s with heap:=h' }):wpAny M A (J5N env (.ref e)) Q E s:=by
 have K':=pushX K F hf hk
 obtain⟨oe,vs,t,he,hc,hd,h0,h1,_⟩:=ex
 have hFF:=frames_hide (as:=e::frs (env::outer)) K'.frames λb hb=>Jk _ hb
 refine wpAny_leaving_firstW (base:=J3I JG (e::frs (env::outer))) hA hFF hf he (λb o q=>J6F _ q) (J5u _ JB) hd h1 h0 λh' hl=> ?_
 obtain⟨k1,⟨_,_,k2⟩,k3,k4⟩:=hl
 rw[hc] at k3
 have gk:∀b o,J3L b=some o->b∉frs outer->(J3I JG (e::frs (env::outer))).get? b=some o:=λb o hb hn=>by
  refine JBb _ (J6Y _ _ hb) λhm=> ?_
  clear hFF hLe hQ he k1 k2 k3
  rcases Jf hm with rfl|hm
  ·rw[hne] at hb;cases hb
  ·rcases (JCF hf).mp hm with rfl|hm
   ·rw[own_none F] at hb;cases hb
   ·exact hn hm
 exact hQ h' ⟨_,t,gk,⟨k1,J5u _ JB,k2,k3⟩,(JAE J6Y).trans k4⟩
theorem leave_on {hh:Heap}(hA:J3w=some (env::outer)) (hf:J3M=some L) (T:JES hh (env::outer) e JG) (hg:∀b o,J3L b=some o->J5v b=some o) (hL:J3L L=none)
  (hQ:∀h',JES g outer e h'->Q () { s with heap:=h' }):wpAny M A (J5N env (.ref e)) Q E s:=by
 obtain⟨B,t,h1,h2,h3⟩:=T
 refine wpAny_leaves_onW hA hf h2 λh' x1 x2=>hQ h' ⟨B,t,λb o hb hn=>h1 b o (hg b o hb) λhm=> ?_,x1,((JAE hg).trans h3).trans x2⟩
 rcases (JCF hf).mp hm with rfl|hm
 ·rw[hL] at hb;cases hb
 ·exact hn hm
end
section
variable {w:World}{A:Around}{E:Value->Shared->Prop}{s:Shared}{hh g:Heap}{env:Env}{l:List Env}{L e:Addr}{m mg mb:Str->Option Value}{K:Frag}{p:Program}{loose:List Str}
theorem caught {np pos:Pos}{rest:List J3t}{Q:Flow->J1->Prop}{kk:Nat}{rp cp:Pos}(k:JA6 w K) (hA:J3w=some (env::l)) (hf:J3M=some L) (hke:J1O=.function) (hx:J34 "Misused"=some .globalImplicit) (hgl:J4g=J0q)
  (T:JES hh (env::l) e JG) (hg:∀b o,J3L b=some o->J5v b=some o/\b∉frs (env::l)) (X:JAC g) (TT:J8j p loose mg mb g)
  (hQ:∀h',JES hh (env::l) e h'->Q (.ret (.bool true)) { s with heap:=h' }):
  wpAny (model prog0 w) A (J5r (.ref e) env) (λy s2a=>wpAny (model prog0 w) A (JDk (.ref e) none) (λy s3a=>
   wpAny (model prog0 w) A (handleBy (.ref e) env (.ExceptHandler (some (.Name "Misused" np)) none [.Return (some (.Constant (.bool true) kk cp)) rp] pos::rest)) Q E s3a) E s2a) E s:=by
 obtain⟨B,t,t1,t2,t3⟩:=T
 refine wpAny_looks_onW hA hf t2 λh4a hheld4 hsm4=> ?_
 refine wpAny_landsW hheld4 λh5a hheld hsm5=> ?_
 have kb:∀{h':Heap},JGc B (env::l) e (.ref 63) (.ref t) h'->∀b o,J3L b=some o->JW b=some o:=λx b o hb=>x.1 b o (t1 b o (hg b o hb).1 (hg b o hb).2)
 have XK:=J7d (kb hheld)
 have TK:=TT.keeps (kb hheld)
 obtain⟨ob,hob,hobc⟩:=hheld.there
 refine wpAny_handleBy_cons (codeAny_handlers_test (J2D hke hx (J5A (mg:=mg) (by rw[hgl];exact TK.g) (mg_of XK TK.g (k.glob ("Misused",.ref 63) (by decide))) ?_))) (by intro q;cases q)
 obtain⟨nm,q,N,bs,sn,sub,ab,col,dd,k0,k1,k2,k3,k5,hC⟩:=J8X
 obtain⟨_,gg,d,tk,os⟩:=s
 refine wpAny_excMatches_sub_self (XK _ _ hC) hob hobc (by decide) (codeAny_handlers_suite ?_)
 refine lands_againW hheld λh6a hfl6 hsm6=> ?_
 refine J7v (wpAny_Return_some (JFu ?_))
 exact hQ h6a ⟨B,t,t1,hfl6,((t3.trans hsm4).trans hsm5).trans hsm6⟩
end
end MX
end
section
open PySem PySem.W PyProof.Rows PySem.Calls
namespace Internal
theorem tG {w:World}{A:J7}{env:Env}{E:Value->J1->Prop}{s:J1}{body orelse:List Stmt}{h₀:J3t}{hs:List J3t}{pos:Pos}{Q:Flow->J1->Prop}
  (h:ae (model prog0 w) A (execs body env) (λf s1a=>match f with | .next=>ae (model prog0 w) A (execs orelse env) Q E s1a|f=>Q f s1a)
   (λe s1a=>JF (model prog0 w) A (J5r e env) (λy s2a=>JF (model prog0 w) A (JDk e none) (λy s3a=>JF (model prog0 w) A (handleBy e env (h₀::hs)) Q E s3a) E s2a) E s1a) s):
  ae (model prog0 w) A (exec (.Try body (h₀::hs) orelse [] pos) env) Q E s:=by
 rw[arm_exec_Try]
 refine aa (am ?_)
 unfold tryStmt
 refine bq (wI1 rfl ?_)
 refine aa (eA (ag h (λf s1a h1a=> ?_) λe s1a h1a=> ?_))
 ·cases f<;>first|exact h1a|exact af h1a
 ·exact bq (aa (ag (av h1a) (λy y h2a=>bq (wI0 rfl (aa (ag (av h2a) (λy y h3a=>bq (wI0 rfl (wI0 rfl (av h3a)))) λy y x=>x)))) λy y x=>x))
theorem Dy {n:Nat}{a:Addr}{k:Nat}{names:List Str}{dfl:List Value}{dflE:List EV}{qual:Str}{body:List Stmt}{scope:Scope}{Γf:Nm}{li ci:List (Option Nat)}
  (hK:∀w K,KOk w K->nh K a k names dfl qual body scope) (hD:aG Γf names li ci scope) (hdf:∀fz ρ,EVs fz ρ dflE dfl)
  {w:World}{A:J7}{Γ:Nm}{X:Fx}(B:BOk w X) (AO:AOk A X (n+1)) {st:St}{T:List EV}{vs:List Value}{args:List EV}{ws:List Value}{s:J1}{h:Heap}{t:Nat}{R:J4y->J1->Prop}
  (hl:J1J=Jx) (hk:J1J=k) (H:Rel w Γ X st (args++T) (ws++vs) h) {ids:List Nat}(hids:fX J5 args=ids) (hok:okIds ids JK=true)
  (hb:∀{X':Fx}{env':Env}{h1a:Heap}{tk:Nat},BD w A Γf X X' h env' n (!ids.isEmpty)->Rel w Γf X' { lo:=hZ (gL (ren ids) args++dflE) li,ce:=hZ (gL (ren ids) args++dflE) ci,co:=[],sl:=fY (ren ids) J5 ids } [] [] h1a->
   ae (model prog0 w) (J2G env') (execs body env') (λfl s'=>R (.ok (.ret (match fl with | .ret v=>v|_=>.none))) s')
    (λe s'=>ae (model prog0 w) (J2G env') (J5N env' e) (λo s''=>R (.error e) s'') (λe' s''=>R (.error e') s'') s') (At s h1a tk))
  (htop:Jl (Γf.top=false) Jn):aC (model prog0 w) A (.call (.ref a) ⟨ws,[]⟩) R (At s h t):=by
 exact AY hK hD hdf B AO hl hk H hids hok (P:=λo o=>False) (λo o o o o o z=>z.elim) (λinj o I R1=>ag (hb I R1) (λo o z=>inj _ _ z) λo o y=>y) htop
theorem dP {n:Nat}{f:Value}{p:EV->VC EV}(h:Op1 n (λv=>call f [v]) p):bh n f (p1 p):=by
 intro w A Γ X B AO st T vs args ws s hh t Q E P hl H hv hQ
 refine e1_2 (Eg hv) λa er0 hv=> ?_
 obtain rfl:=er0
 refine e1_1 (Aj hl) λv er1=> ?_
 clear hl
 obtain rfl:=er1
 exact h B AO H hv hQ
theorem qG {n:Nat}{f:Value}{p:EV->EV->VC EV}(h:Op2 n (λv u=>call f [v,u]) p):bh n f (p2 p):=by
 intro w A Γ X B AO st T vs args ws s hh t Q E P hl H hv hQ
 refine e2_2 (rT hv) λa b er0 hv=> ?_
 obtain rfl:=er0
 refine e2_1 (xt hl) λv u er1=> ?_
 clear hl
 obtain rfl:=er1
 exact h B AO H.swap2 hv hQ
section
variable {w:World}{Γ:Nm}{X:Fx}{st:St}{T:List EV}{vs:List Value}{h:Heap}{n:Nat}
theorem Rel.lst1 {e:EV}{v:Value}{ps:List PV}(B:BOk w X) (H:Rel w Γ X st (e::T) (v::vs) h) (hl:bF e st=some ps):∃a items k fz,v=.ref a/\JN a=some (bG items k)/\PRs fz ps J0P/\Jt=J12/\∀a o,fz a o->JN a=some o:=by
 refine J9 H λN own ρ m R=> ?_
 refine e0_2 Jg λz zs=> ?_
 refine e3_3 (J2j B z hl) λa items k e1 g1 g2=> ?_
 have:=J72
 simp only [J0L] at this
 exact (bT a items k _ e1 g1 g2 ⟨this,(λa o q=>J29 B q)⟩)
theorem PRs.intsAre {fz:FzP}{ps:List PV}{vs:List Value}{ks:List Int}(h:PRs fz ps vs) (q:cA ps=some ks):IntsAre vs ks:=
 eU (C:=IntsAre) .nil (λq a c=>by
  cases pL q
  obtain⟨t,rfl⟩:=a.inv
  exact .cons _ _ c) h q
def uh:PV->Option Bool
 | .bool i=>some i
 |_=>none
theorem zr {p:PV}{i:Bool}(q:uh p=some i):p=.bool i:=by cases p<;>cases q;rfl
abbrev gH:List PV->Option (List Bool):=gX uh
theorem PRs.boolsAre {fz:FzP}{ps:List PV}{vs:List Value}{ks:List Bool}(h:PRs fz ps vs) (q:gH ps=some ks):JGX vs ks:=
 eU (C:=JGX) .nil (λq a c=>by
  cases zr q
  obtain rfl:=a.inv
  exact .cons _ c) h q
def zp:PV->Option Str
 | .str i=>some i
 |_=>none
theorem Cg {p:PV}{i:Str}(q:zp p=some i):p=.str i:=by cases p<;>cases q;rfl
abbrev pp:List PV->Option (List Str):=gX zp
theorem PRs.strsAre {fz:FzP}{ps:List PV}{vs:List Value}{ks:List Str}(h:PRs fz ps vs) (q:pp ps=some ks):StrsAre vs ks:=
 eU (C:=StrsAre) .nil (λq a c=>by
  cases Cg q
  obtain⟨t,rfl⟩:=a.inv
  exact .cons _ _ c) h q
def yw:SO->Option (List EV)
 | .elist es=>some es
 |_=>none
theorem pr {so:SO}{es:List EV}(q:yw so=some es):so=.elist es:=by cases so<;>cases q;rfl
abbrev GW:=cU yw
def GH (e:EV):VC EV:=λst P=>bj (bF e st) (λps=>Jt<=65536/\P (.pv (.int Jt)) st)
 (bj (i8 e) (λps=>Jt<=65536/\P (.pv (.int Jt)) st)
 (bj (eT e) (λx=>J3g<=65536/\P (.pv (.int J3g)) st)
 (bj (cG e) (λx=>J3g<=65536/\P (.pv (.int J3g)) st)
 (aj (GW e st) λes=>J1H<=65536/\P (.pv (.int J1H)) st))))
theorem Eu {k:Nat}(h:k<=65536):(k:Int)<2 ^ 63:=Int.lt_of_le_of_lt (J4P h) (by decide)
theorem En:Op1 n (λv=>call (.builtin "len") [v]) GH:=by
 intro w A Γ X B AO st T vs ea va s h t Q E P H hv hQ
 have fin:∀{k t' t''},P (.pv (.int k)) st->Q (.int k t') (At s h t''):=λhP=>hQ _ _ st h _ (JEi λy y y=>.pv (.int _ _)) hP
 clear hQ
 have asL:∀{a items n},JN a=some (bG items n)->J12<=65536->P (.pv (.int J12)) st->ae (model prog0 w) A (call (.builtin "len") [.ref a]) Q E (At s h t):=λhg hk hP=>
  av (len_list (s:=At s h t) (aO _ hg rfl _ rfl) (Eu hk) (fin hP))
 refine J9 H λN own ρ m R=> ?_
 refine e0_2 Jg λz zs=> ?_
 clear H
 rcases aX hv with hv|hv
 ·refine e1_3 (ah hv) λps q hk hP=> ?_
  refine e3_3 (J2j B z q) λa items k er0 g hi=> ?_
  have l1:Jt=J12:=JAi
  refine Jm▸?_
  rw[l1] at hk hP
  exact asL g hk hP
 rcases aX hv with hv|hv
 ·refine e1_3 (ah hv) λps q hk hP=> ?_
  refine e3_3 (gK q z) λa items k er1 f hi=> ?_
  refine J0y▸?_
  have l1:Jt=J12:=JAi
  rw[l1] at hk hP
  exact av (len_tuple (s:=At s h t) (aO _ (J29 B f) rfl _ rfl) (Eu hk) (fin hP))
 rcases aX hv with hv|hv
 ·refine e1_3 (ah hv) λx q hk hP=> ?_
  refine e1_1 (dt q z) λtk er2=> ?_
  refine J3P▸?_
  exact av (PySem.P.len_str (s:=At s h t) (Int.not_le.mpr (Eu hk)) (fin hP))
 rcases aX hv with hv|hv
 ·refine e1_3 (ah hv) λx q hk hP=> ?_
  refine e1_1 (bW q z) λtk er3=> ?_
  refine J4X▸?_
  exact av (len_bytes (s:=At s h t) (JJ hk (by decide)) (fin hP))
 refine e1_3 (ah hv) λes q hk hP=> ?_
 refine e2_3 (eE q) λi so er4 q1 q2=> ?_
 clear hv q
 obtain rfl:=er4
 cases pr q2
 refine e1_2 JDW λa er5 hρ=> ?_
 refine J9y▸?_
 refine e2_2 ((J96 _ _ _ hρ q1).inv) λitems nn g hi=> ?_
 have l1:J1H=J12:=JAi
 rw[l1] at hk hP
 exact asL (JH _ g).1 hk hP
def GE (e:EV):VC EV:=λst P=>aj (eT e) λx=>J3g=1/\P (.pv (.int (J9O 0 0:Nat))) st
theorem Em:Op1 n (λv=>call (.builtin "ord") [v]) GE:=by
 intro w A Γ X B AO st T vs ea va s h t Q E P H hv hQ
 refine e1_3 (ah hv) λx q hk hP=> ?_
 refine e2_1 JCQ λfz ρ z=> ?_
 refine e1_1 (dt q z) λtk er0=> ?_
 clear z
 obtain rfl:=er0
 exact av (ord_of_one (s:=At s h t) hk (hQ _ _ st h _ (JEi λy y y=>.pv (.int _ _)) hP))
def GK (e:EV):VC EV:=λst P=>aj (bA e) λi=>(0<=i/\i<=1114111)/\P (.pv (.str ⟨#[J6f]⟩)) st
theorem Er:Op1 n (λv=>call (.builtin "chr") [v]) GK:=by
 intro w A Γ X B AO st T vs ea va s h t Q E P H hv hQ
 refine e1_3 (ah hv) λx q hk hP=> ?_
 refine e2_1 JCQ λfz ρ z=> ?_
 refine e1_1 (bz q z) λtk er0=> ?_
 clear z
 obtain rfl:=er0
 exact av (chr_of_range (s:=At s h t) hk.1 hk.2 (hQ _ _ st h _ (JEi λy y y=>.pv (.str _ _)) hP))
def GD (e:EV):VC EV:=λst P=>aj (bF e st) λps=>aj (cA ps) λks=>P (.pv (.int ks.sum)) st
theorem El:Op1 n (λv=>call (.builtin "sum") [v]) GD:=by
 intro w A Γ X B AO st T vs ea va s h t Q E P H hv hQ
 refine e1_2 (ah hv) λps q hv=> ?_
 refine e1_2 (ah hv) λks qk hP=> ?_
 refine e4_5 (JGd B q) λa items k fz er0 g1 g2 y y=> ?_
 refine Jm▸?_
 refine J9 H λN own ρ m R=> ?_
 refine e0_2 Jg λz zs=> ?_
 exact av (LSm.sum_ints (s:=At s h t) (vs:=J0P) JF7 JH JHe (aO _ g1 rfl k (by simp)) (g2.intsAre qk) λh' tk t' F' N'=>hQ _ _ st h' tk ⟨_,_,_,_,(JGN F' N').temps (.cons (.pv (.int _ _)) zs)⟩ hP)
def GL (e:EV):VC EV:=λst P=>aj (bF e st) λps=>aj (gH ps) λks=>P (.pv (.bool (ks.all id))) st
theorem Es:Op1 n (λv=>call (.builtin "all") [v]) GL:=by
 intro w A Γ X B AO st T vs ea va s h t Q E P H hv hQ
 refine e1_2 (ah hv) λps q hv=> ?_
 refine e1_2 (ah hv) λks qk hP=> ?_
 refine e4_5 (JGd B q) λa items k fz er0 g1 g2 y y=> ?_
 obtain rfl:=er0
 refine J9 H λN own ρ m R=> ?_
 refine e0_2 Jg λz zs=> ?_
 exact av (LSm.all_bools (s:=At s h t) (vs:=J0P) JF7 JH JHe (aO _ g1 rfl k (by simp)) (g2.boolsAre qk) λh' tk F' N'=>hQ _ _ st h' tk ⟨_,_,_,_,(JGN F' N').temps (.cons (.pv (.bool _)) zs)⟩ hP)
def vq (ks:List Int):Bool:=ks.all λk=>decide (0<=k/\k<256)
def Fe:SO->Option (List UInt8)
 | .ba b=>some b
 |_=>none
theorem DX {so:SO}{b:List UInt8}(q:Fe so=some b):so=.ba b:=by cases so<;>cases q;rfl
abbrev EO:=cU Fe
theorem aA.ba {N:Led}{own:Own}{ρ:List Addr}{m:Str->Option Value}(R:aA w Γ X st T vs h N own ρ m) {e:EV}{v:Value}{b:List UInt8}(q:EO e st=some b) (he:EVR (aI JA N own) ρ e v):
  ∃i a,e=.loc i/\v=.ref a/\ρ[i]? =some a/\J5[i]? =some (.ba b)/\(a,baO J60)∈N:=by
 refine e2_3 (eE q) λi so er0 q1 q2=> ?_
 clear q
 obtain rfl:=er0
 cases DX q2
 refine e1_2 JAj λa er1 hρ=> ?_
 refine J0y▸?_
 refine e1_2 ((J96 _ _ _ hρ q1).inv) λarr g er2=> ?_
 clear q2
 obtain rfl:=er2
 exact (dL i a rfl rfl hρ ⟨q1,g⟩)
def Ed (e:EV):VC EV:=λst P=>bj (cG e) (λb=>P (.pv (.bytes b)) st)
 (bj (bA e) (λi=>(0<=i/\i<=65536)/\P (.pv (.bytes (J0E J6f 0))) st)
 (bj (EO e st) (λb=>J2<=65536/\P (.pv (.bytes b)) st)
 (aj (bF e st) λps=>aj (cA ps) λks=>(vq ks=true/\Jt<=65536)/\P (.pv (.bytes (J8V λk=>J3k))) st)))
theorem zZ:Op1 n (λv=>call (.type "bytes") [v]) Ed:=by
 intro w A Γ X B AO st T vs ea va s h t Q E P H hv hQ
 have K:∀{b:Array UInt8}{tk t'},P (.pv (.bytes b.toList)) st->Q (.bytes b tk) (At s h t'):=λhP=>hQ _ _ st h _ (JEi λy y y=>.pv (.bytes rfl _)) hP
 rcases aX hv with hv|hv
 ·refine e1_2 (ah hv) λb q hP=> ?_
  refine e2_1 JCQ λfz ρ z=> ?_
  refine e1_1 (bW q z) λtk er0=> ?_
  refine Jm▸?_
  exact av (sV (s:=At s h t) (K hP))
 rcases aX hv with hv|hv
 ·refine e1_3 (ah hv) λi q hk hP=> ?_
  refine e2_1 JCQ λfz ρ z=> ?_
  refine e1_1 (bz q z) λtk er1=> ?_
  rw[er1]
  exact av (sU (s:=At s h t) hk.1 hk.2 (K (by simpa using hP)))
 rcases aX hv with hv|hv
 ·refine e1_3 (ah hv) λb q hk hP=> ?_
  refine J9 H λN own ρ m R=> ?_
  refine e2_5 (R.ba q Jg.1) λi a er2 er3 y y g=> ?_
  refine J4X▸?_
  clear H hv q
  obtain rfl:=er2
  exact av (Bp (s:=At s h t) (JH _ g).1 (fit_le hk) (K hP))
 refine e1_2 (ah hv) λps q hv=> ?_
 refine e1_3 (ah hv) λks qk en4 hP=> ?_
 obtain⟨hr,hl⟩:=en4
 refine e4_5 (JGd B q) λa items k fz er5 g1 g2 g3 y=> ?_
 refine J9y▸?_
 exact av (call_bytes_ints (s:=At s h t) (vs:=J0P) (aO _ g1 rfl k rfl) (g2.intsAre qk) (λn hn=>J05 (J6p hr n hn)) (by rw[J0L,<- g3];exact fit_le hl) JHe λh' t' k' hk=>hQ _ _ st h' k' ((H.keeps hk).turn1 λy y y=>.pv (.bytes (by simp [byteArr]) _)) hP)
def FF (as:List EV):VC EV:=λst P=>match as with
 |[]=>P (.loc JK) { st with sl:=J5++[.ba []] }
 |_=>False
theorem Ef {as:List EV}{st:St}{P:EV->St->Prop}(h:FF as st P):as=[]/\P (.loc JK) { st with sl:=J5++[.ba []] }:=by
 cases as with
 |nil=>exact⟨rfl,h⟩
 |cons=>exact JX
theorem CZ:bh n (.type "bytearray") FF:=by
 intro w A Γ X B AO st T vs args ws s h t Q E P hl H hv hQ
 obtain⟨rfl,hv⟩:=Ef hv
 obtain rfl:=J0x JH6
 refine J9 H λN own ρ m R=> ?_
 refine Bk (s:=At s h t) λh' hk ho=> ?_
 have R1:=JEV hk
 have fr:=J8k (Jb _)
 have R':=R1.newSlot (a:=JM) (so':=.ba []) (J4C (own:=own) (a:=JM) (o:=baO #[]) (l:=.slot JK) (dh JH)) R1.fr (λp hp=>by
  rcases Jf hp with rfl|hp
  ·exact⟨ho,fr.2.1,fr.1⟩
  ·exact R1.nw p hp) (.ba (arr:= #[]) JB rfl) br
 exact hQ _ _ _ h' t ⟨_,_,_,_,J1e (.cons (.loc (by rw[JBn,J0D (Jb _)];simp)) J7o)⟩ hv
def Ee (a b:EV):VC EV:=λst P=>aj (EO a st) λx=>aj (cG b) λy=>J3g+J3N<=65536/\P (.pv .none) { st with sl:=upd J5 JEN (.ba (x++y)) }
theorem z5:Op2 n (λv u=>call (.builtin "bytearray.extend") [v,u]) Ee:=by
 intro w A Γ X B AO st T vs ea eb va vb s h t Q E P H hv hQ
 refine e1_2 (ah hv) λx q hv=> ?_
 refine e1_3 (ah hv) λy q2 hz hP=> ?_
 clear hv
 refine J9 H λN own ρ m R=> ?_
 refine e0_3 J14 λz1 z2 zs=> ?_
 refine e1_1 (bW q2 z1) λtk er0=> ?_
 refine Jm▸?_
 refine e2_5 (R.ba q z2) λi a er1 er2 hρ q' hm=> ?_
 clear H hv q z2
 obtain rfl:=er1
 refine J3P▸?_
 refine mC (s:=At s h t) (JH _ hm).1 (by rw[Array.size_append];exact lf hz) λh' hs ho=> ?_
 have R':=JA3 (so':=.ba (x++y)) hρ q' (by intro z;cases z) hm hs ho λmz=>.ba bD J2Y
 exact hQ _ _ _ h' t ⟨_,_,_,_,J1e (.cons (.pv .none) J4l.2.2)⟩ hP
def D8 (e:EV):VC EV:=λst P=>aj (bF e st) λps=>Jt<=65536/\P (.pv (.tup ps)) st
theorem zP:Op1 n (λv=>call (.type "tuple") [v]) D8:=by
 intro w A Γ X B AO st T vs ea va s h t Q E P H hv hQ
 refine e1_3 (ah hv) λps q hl hP=> ?_
 refine J9 H λN own ρ m R=> ?_
 refine e0_2 Jg λz zs=> ?_
 refine e3_3 (J2j B z q) λa items k er0 g1 g2=> ?_
 clear H z
 obtain rfl:=er0
 have hle:=J72
 simp only [J0L] at hle
 refine av (call_tuple_list (s:=At s h t) (aO _ g1 rfl k rfl) (λh' hk=> ?_) (by rw[<- hle];exact fit_le hl))
 exact hQ _ _ st _ t (((JEV hk).temps zs).newFz0 _ rfl λfz' mz q=>.tup q (J2o mz g2)) hP
def FI (a b:EV):VC EV:=λst P=>aj (bF a st) λxs=>aj (bF b st) λys=>J4b+J6v<=65536/\P (.pv (.lst (xs++ys))) st
theorem Cr:Op2 n (J3Q .Add) FI:=by
 intro w A Γ X B AO st T vs ea eb va vb s h t Q E P H hv hQ
 refine e1_2 (ah hv) λxs q1 hv=> ?_
 refine e1_3 (ah hv) λys q2 hl hP=> ?_
 refine J9 H λN own ρ m R=> ?_
 refine e0_3 J14 λz1 z2 zs=> ?_
 refine e3_3 (J2j B z2 q1) λa i1 k1 er0 g1 g2=> ?_
 refine Jm▸?_
 refine e3_3 (J2j B z1 q2) λb i2 k2 er1 g3 g4=> ?_
 refine J0y▸?_
 have l1:=J72
 have l2:=g4.len
 simp only [J0L] at l1 l2
 exact av (PySem.P.add_list (s:=At s h t) g1 g3 (hQ _ _ st _ t ((Jj zs).newFz0 _ rfl λfz' mz q=>.lst q (by simpa using (J2o mz g2).append (J2o mz g4))) hP) (by rw[<- l1,<- l2];exact lf hl))
def Fd:List PV->Option PV
 |[x]=>some x
 |_=>none
theorem DV {l:List PV}{x:PV}(h:Fd l=some x):l=[x]:=by
 cases l with
 |nil=>cases h
 |cons y r=>cases r with
  |nil=>cases h;rfl
  |cons u v=>cases h
def Fq (a b:EV):VC EV:=λst P=>aj (bF a st) λxs=>aj (bA b) λk=>aj (Fd xs) λx=>(0<=k/\k<=65536)/\P (.pv (.lst (J0E J2i x))) st
theorem AJ (v:Value) (k:Nat):∀acc:Array Value,(List.foldl (λx1 x2=>x1++x2) acc (J0E k #[v])).toList=acc.toList++J0E k v:=by
 induction k with
 |zero=>exact λacc=>(J0e _).symm
 |succ k ih=>
  intro acc
  rw[JBr,List.foldl_cons,ih]
  simp [JBr]
theorem PRs.rep {fz:FzP}{p:PV}{v:Value}(h:PR fz p v) (k:Nat):PRs fz (J0E k p) (J0E k v):=by
 induction k with
 |zero=>exact .nil
 |succ k ih=>exact .cons h ih
theorem vT:Op2 n (J3Q .Mult) Fq:=by
 intro w A Γ X B AO st T vs ea eb va vb s h t Q E P H hv hQ
 refine e1_2 (ah hv) λxs q1 hv=> ?_
 refine e1_2 (ah hv) λk q2 hv=> ?_
 refine e1_3 (ah hv) λx q3 en0 hP=> ?_
 obtain⟨h0,h1⟩:=en0
 clear hv
 clear hv
 cases DV q3
 refine J9 H λN own ρ m R=> ?_
 refine e0_3 J14 λz1 z2 zs=> ?_
 refine e3_3 (J2j B z2 q1) λa en1 k1 er2 g1 g2=> ?_
 refine J3P▸?_
 obtain⟨l⟩:=en1
 refine e1_1 (bz q2 z1) λtk er3=> ?_
 refine J4X▸?_
 refine e2_3 g2.invL λv vs' e hx hn=> ?_
 clear g2 q3
 cases hn
 obtain rfl:l=[v]:=e
 refine av (mul_list (s:=At s h t) JF7 JH g1 (by omega) (by omega) (by simp;exact z01 0x1110000007f800100005f8001 h1) λh' F' N'=> ?_)
 have E':=J4C (own:=own) (a:=JM) (o:=bG (List.foldl (λx1 x2=>x1++x2) #[] (J0E J2i #[v])) 0) (l:=.fz) (dh JH)
 refine hQ _ _ st h' t ⟨_,_,_,_,(R.add E' F' N').temps (.cons (.pv (.lst (.inr ⟨JB,br⟩) ?_)) (zs.mono JBx λy y z=>z))⟩ hP
 rw[AJ]
 exact (PRs.rep (J6l JBx hx) _)
def Fv (a b:EV):VC EV:=λst P=>aj (eT a) λx=>aj (bF b st) λps=>aj (pp ps) λys=>(J3g<=16/\(ys.map (·.length)).sum+J6v<=65536)/\P (.pv (.str (Txt.join x ys))) st
theorem Cq:Op2 n (λv u=>call (.builtin "str.join") [v,u]) Fv:=by
 intro w A Γ X B AO st T vs ea eb va vb s h t Q E P H hv hQ
 refine e1_2 (ah hv) λx q1 hv=> ?_
 refine e1_2 (ah hv) λps q2 hv=> ?_
 refine e1_3 (ah hv) λys q3 en0 hP=> ?_
 obtain⟨hx,hs⟩:=en0
 refine e2_2 J9j λfz ρ z1 z2=> ?_
 refine e1_1 (dt q1 z1) λtk er1=> ?_
 refine J0y▸?_
 refine e4_4 (JGd B q2) λb items k fz' er2 g1 g2 y=> ?_
 refine J3P▸?_
 exact av (join_listW (s:=At s h t) (aO _ g1 rfl k rfl) (g2.strsAre q3) hx (by omega) λt' k'=>hQ _ _ st h k' (J8y λy y y y=>.pv (.str _ _)) hP)
def isT (T:J23):Option Bool:=if T="int" then some true else if T="str" then some false else none
theorem Az {T:J23}{k:Bool}(q:isT T=some k):(T="int"/\k=true)∨(T="str"/\k=false):=by
 by_cases h:T="int"
 ·exact .inl ⟨h,(JT ((JC h).symm.trans q)).symm⟩
 ·refine e0_2 (J3x ((JL h).symm.trans q)) λh q=> ?_
  exact .inr ⟨h,(JT q).symm⟩
end
structure mN (h:Heap) (d:Addr) (od:Obj) (ds:Array J0g) (ep:Nat):Prop where
 get:JN d=some od
 ex:JAb
 dat:JH0=.dict ds ep
theorem mN.typeIs {s:J1}{d:Addr}{od:Obj}{ds:Array J0g}{ep:Nat}(D:mN JG d od ds ep):J6D (.ref d) "dict":=(az od JDA D.ex.1)
section
variable {w:World}{A:Around}{E:Value->Shared->Prop}{s:Shared}{d:Addr}{od:Obj}{ds:Array DictEntry}{ep:Nat}
theorem zm {Q:Value->J1->Prop}(hd:(d==J2I)=false) (D:mN JG d od ds ep)
  (hQ:Q (.ref JS) { s with heap:=J0T { cls:=.type "dict_keyiterator",data:=.fields #[.ref d,.int 0 0,.int J3m 0,.int ep 0] } }):JF (model prog0 w) A (J6P (.ref d)) Q E s:=by
 refine JCY J7M JDT (J1X JDT J7M F.entry_dict_iter ?_ (F.args_dict_iter_1 _))
 refine kB ?_
 refine kB (JAR J7M ?_)
 show JF _ _ (pure (J4G d)) _ _ s
 refine JI ?_
 show JF _ _ (JBA d>>=_) _ _ s
 unfold JBA
 rw[JL (by rw[hd];exact J1U)]
 refine kB (JI (kB (J45 JDA JEo (kB (J8I JDA JEo ?_)))))
 exact kB (J1K (JI (sm _ rfl ("dict_keyiterator") _ (az _ (J09 _ rfl) rfl) F.slot_dict_keyiterator_next.lookup hQ)))
theorem zn {it:Addr}{i:Nat}{Q:Option Value->J1->Prop}(hit:JDG it d i J3m ep) (D:mN JG d od ds ep) (hi:i<J3m)
  (hQ:∀h',h'.IsKeyIter it d (i+1) J3m ep->J0m it JG h'->Q (some ds[i].key) { s with heap:=h' }):JF (model prog0 w) A (J70 (.ref it)) Q E s:=by
 refine e1_3 (id hit) λo ho hc hd=> ?_
 have hT:J6D (.ref it) "dict_keyiterator":=(az o ho hc)
 refine kB (J2W (J1P (name:=J11 "__next__") hT J2t (J1X J2t hT J86 ?_ (J7t _))))
 refine kB (JI (kB (kB ?_)))
 refine kB (J2Z hT (JI (kB (JEx ho hd ?_))))
 refine kB (JI (kB (J45 JDA JEo ?_)))
 refine J18 (by simp) ?_
 refine kB (JI (kB (J8I JDA JEo ?_)))
 refine J18 (by simp) ?_
 refine JI (kq ?_)
 simp only [show ¬((i:Int)<0) from by exact z10 0x1080e130,JCC,J0l,J57 hi]
 refine kB (kB (J2Z hT (JI ?_)))
 refine kB (JAS hT ?_)
 show JF _ _ (setField (.ref it) 1 (J3y ((i:Int)+1))>>=_) _ _ s
 refine kB (J49 ho hd (by simp) ?_)
 have hit':(J3j it (J7B (·.setIfInBounds 1 (J3y ((i:Int)+1))))).IsKeyIter it d (i+1) J3m ep:=
  (i_eaa _ (J1f _ ho (J63 (J2p hd _))) ((J7h ..).trans hc) (by rw[J2p hd];simp [J3y]))
 refine kB (J3Y (kB (JAS (s:={ s with heap:=J3j it (J7B (·.setIfInBounds 1 (J3y ((i:Int)+1)))) }) hit'.typeIs ?_)))
 exact JI (JI (az _ rfl (JI (hQ _ hit' (J0f ..)))))
theorem Ce {it:Addr}{Q:Option Value->J1->Prop}(hh:J3v=none) (hit:JDG it d J3m J3m ep) (D:mN JG d od ds ep)
  (hQ:∀h',J8x it JG h'->Q none { s with heap:=h' }):JF (model prog0 w) A (J70 (.ref it)) Q E s:=by
 refine e1_3 (id hit) λo ho hc hd=> ?_
 have hT:J6D (.ref it) "dict_keyiterator":=(az o ho hc)
 refine kB (J2W (J1P (name:=J11 "__next__") hT J2t (J1X J2t hT J86 ?_ (J7t _))))
 refine kB (JI (kB (kB ?_)))
 refine kB (J2Z hT (JI (kB (JEx ho hd ?_))))
 refine kB (JI (kB (J45 JDA JEo ?_)))
 refine J18 (by simp) ?_
 refine kB (JI (kB (J8I JDA JEo ?_)))
 refine J18 (by simp) ?_
 refine JI (kq ?_)
 simp only [show ¬((J3m:Int)<0) from by exact z10 0x1080e130,JCC,J0l,Array.getElem?_eq_none (Jb J3m)]
 refine kB (kB (J2Z hT (JI ?_)))
 show JF _ _ (setField (.ref it) 0 .none>>=_) _ _ s
 refine kB (J49 ho hd (by simp) ?_)
 show JF _ _ (newExc (.type "StopIteration") []>>=_) _ _ _
 refine kB ?_
 refine kB (J1K ?_ (by size_fits))
 refine kB (m:=JF3 _ _) (J0C (a:=J9f) rfl ?_)
 refine J1K ?_ (by size_fits)
 refine kB (JFI ?_)
 refine (show JFy=none from hh).symm▸?_
 refine kB (JI (JCt ?_))
 refine kB (J3O (T:="StopIteration") (b:=true) (az _ (J09 _ rfl) rfl) JF0 ?_)
 exact JI (hQ _ (((J0f ..).extBut.push _).push _))
end
theorem mN.keep {h h':Heap}{d:Addr}{od:Obj}{ds:Array J0g}{ep:Nat}(D:mN h d od ds ep) (k:∀o,JN d=some o->JW d=some o):mN h' d od ds ep:=⟨k _ JDA,D.ex,JEo⟩
theorem xc {w:World}{A:J7}(hh:J3v=none) (I d:Addr) (hne:d≠I) (od:Obj) (ds:Array J0g) (ep:Nat):
  Walks prog0 w A I [I,d] [I] J3m (λi v=>∃hi:i<J3m,v=ds[i].key) (λi h=>h.IsKeyIter I d i J3m ep/\mN h d od ds ep) where
 sub:=λb hb=>by simp at hb;simp [hb]
 frame:=λy y y st hk=>⟨st.1.at λo e=>hk I (by simp) o e,st.2.keep λo e=>hk d (by simp) o e⟩
 item:=λi s Q E hi st hQ=>zn st.1 st.2 hi λh' hit' hs'=>hQ _ h' J3E ⟨hi,rfl⟩ ⟨hit',st.2.keep λo e=>J9V d o hne e⟩ λb o hb e=>J9V b o (λh=>hb (by simp [h])) e
 done:=λs Q E st hQ=>Ce hh st.1 st.2 λh' he'=>hQ h' J3E λb o hb e=>he' b o (λh=>hb (by simp [h])) e
 self:=λy y y y st hQ=>wpAny_pyIter_keyiter st.1 hQ
theorem Cd {w:World}{d:Addr}{od:Obj}{ds:Array J0g}{ep:Nat}(lo:(d==J2I)=false):KdlSrc prog0 w "dict" d d J3m (λi v=>∃hi:i<J3m,v=ds[i].key) (λh=>mN h d od ds ep) where
 type:=λy hm=>hm.typeIs
 there:=λy hm=>⟨Jo hm.get,Jo hm.get⟩
 keep:=λy y hm hk=>hm.keep λo e=>hk d (.inl rfl) o e
 notList:=by decide
 notTuple:=by decide
 hint:=λy y y y hm hq=>kdl_hint_dict hm.typeIs hq
 iter:=λA s hh hm=>⟨_,_,λE Q h=>zm lo hm h,xc hh JS d (J0O (Jo hm.get)) od ds ep,⟨_,J09 _ rfl,rfl,rfl⟩,hm.keep λo e=>JY _ e⟩
section
variable {w:World}{Γ:Nm}{X:Fx}{st:St}{T:List EV}{vs:List Value}{h:Heap}{n:Nat}
theorem aA.fzAt {N:Led}{own:Own}{ρ:List Addr}{m:Str->Option Value}{h':Heap}{a:Addr}{o:Obj}(R:aA w Γ X st T vs h N own ρ m) (k:∀b o,JN b=some o->JW b=some o) (ha:JM<=a) (hg:JW a=some o) {p:PV}(q:∀fz':FzP,(∀a o,aI JA N own a o->fz' a o)->fz' a o->PR fz' p (.ref a)):
  Rel w Γ X st (.pv p::T) (.ref a::vs) h':=by
 have fr:=J8k ha
 have E':=J4C (own:=own) (o:=o) (l:=.fz) fr.2.2
 have R1:=JEV k
 have R':=R1.add E' R1.fr (λp hp=>by
  rcases Jf hp with rfl|hp
  ·exact⟨hg,fr.2.1,fr.1⟩
  ·exact R1.nw p hp)
 exact⟨_,_,_,_,J1e (.cons (.pv (q _ JBx (.inr ⟨JB,br⟩))) J7o)⟩
def ly (es:List (List Int×PV)):List PV:=J4w λp=>.tup (p.1.map .int)
def zI (e:EV):VC EV:=λst P=>aj (wC e st) λes=>J1H<=65536/\P (.pv (.lst (ly es))) st
theorem TEs.at {fz:FzP}{es:List (List Int×PV)}{xs:List (List Int×Addr×Value)}(h:TEs fz es xs):∀{i:Nat}{x:List Int×Addr×Value},xs[i]? =some x->∃e,es[i]? =some e/\PR fz (.tup (e.1.map .int)) (.ref x.2.1):=by
 induction h with
 |nil=>intro i x h;cases h
 |cons hp h _ ih=>
  intro i x hx
  cases i with
  |zero=>cases hx;exact (az _ rfl hp)
  |succ i=>exact ih hx
theorem PRs.ofGet {fz:FzP}{ps:List PV}:∀{vs:List Value},Jt=J5l->(∀(i:Nat) (p:PV) (v:Value),ps[i]? =some p->vs[i]? =some v->PR fz p v)->PRs fz ps vs:=by
 induction ps with
 |nil=>exact λhl y=>J0x JH6▸.nil
 |cons p ps ih=>
  intro vs hl h
  cases vs with
  |nil=>cases hl
  |cons v vs=>exact .cons (h 0 p v rfl rfl) (ih (J3b hl) λi p v a b=>h (i+1) p v a b)
set_option tactic.hygienic true in
theorem zU:Op1 n (λv=>call (.type "list") [v]) zI:=by
 intro w A Γ X B AO st T vs ea va s h t Q E P H hv hQ
 unfold zI at hv
 refine e1_2 (ah hv) λes q hw=> ?_
 clear hv
 refine J9 H λN own ρ m R=> ?_
 refine e0_2 Jg λz zs=> ?_
 refine e2_3 (eE q) λi so er0 q1 q2=> ?_
 obtain rfl:=er0
 obtain rfl:=yt q2
 refine e1_2 JDW λ_ er0 hρ=> ?_
 refine Jm▸?_
 refine e4_7 ((J96 _ _ _ hρ q1).inv) λ_ _ _ _ hm lo hx hd he hn ht=> ?_
 rename_i od ds ep xs
 have hlen:J4b=J1H:=by have:=JD J4p (ht.keys);simpa using this
 have hsz:J3m=J1H:=by rw[<- hlen,<- J0L,he,J6]
 refine av (kdl_call (s:=At s h t) (Cd (w:=w) lo) JHe (⟨(JH _ hm).1,hx,hd⟩:mN h _ od ds ep) (by rw[hsz];exact fit_le hw.1) λh' tk acc' c' hk' hg hacc=> ?_)
 refine hQ _ _ st h' tk ((Jj zs).fzAt hk' (Jb _) hg λfz' mz q=>.lst q (PRs.ofGet ?_ λi p v hp hv'=> ?_)) hw.2
 ·have h1:=hacc.1
  unfold ly
  rw[J6]
  exact (h1.trans hsz).symm
 ·unfold ly at hp
  replace hp:=(JR)▸hp
  refine e1_2 (Jw hp) λe he' er1=> ?_
  refine J0y▸?_
  refine e1_1 (hacc.2 i v (by rw[<- J6A];exact hv')) λhi er2=> ?_
  refine J3P▸?_
  have hx':xs[i]? =some (xs[i]'(by exact z40 0x11011010930923a21a3 hlen hsz hi)):=Jy (by exact z40 0x11011010930923a21a3 hlen hsz hi)
  refine e1_2 ((J9u mz).at hx') λe2 y1 y2=> ?_
  replace y1:=(he')▸y1
  cases y1
  have hkey:ds[i].key=.ref (xs[i]'(by exact z40 0x11011010930923a21a3 hlen hsz hi)).2.1:=by
   have:J5y[i]? =some (J9Y (TK w) (xs[i]'(by omega))):=by rw[he,JR,hx'];rfl
   rw[J6A,J57 hi] at this
   rw[JT this];rfl
  rw[hkey];exact y2
end
end Internal
end
section
open PySem PySem.W PyProof.Rows PySem.Calls PySem.SeqAt
namespace Internal
theorem EQ {cmp:Nat->Nat->(Bool->J1->Prop)->J1->Prop}{n:Nat}{s:J1}(hc:∀k (C:Bool->J1->Prop),1<=k->k<n->C false s->cmp k (k - 1) C s) (f:Nat):∀(k:Nat) {Q:Nat->J1->Prop},1<=k->k+f=n->Q n s->(kas_asc (JZ n).toArray f k).kasWp cmp Q s:=by
 have g:∀j,j<n->(JZ n).toArray.getD j 0=j:=λj hj=>by simp [Array.getD,hj]
 induction f with
 |zero=>
  intro k Q y e h
  exact (show k=n from e).symm▸h
 |succ f ih=>
  intro k Q h1 e h
  have hk:k<n:=by exact z30 0x1011091182909a1 e
  show cmp ((JZ n).toArray.getD k 0) ((JZ n).toArray.getD (k - 1) 0) _ s
  refine (g k hk).symm▸?_
  refine (g (k - 1) (J2q (Nat.sub_le _ _) hk)).symm▸?_
  exact hc k _ h1 hk (show KasT.kasWp cmp (kas_asc (JZ n).toArray f (k+1)) Q s from ih (k+1) (J2e (J1m _)) ((J2O k f).trans e) h)
theorem BV {cmp:Nat->Nat->(Bool->J1->Prop)->J1->Prop}{n:Nat}{s:J1}(h2:2<=n) (hc:∀k (C:Bool->J1->Prop),1<=k->k<n->C false s->cmp k (k - 1) C s) {Q:Array Nat->J1->Prop}(h:Q (JZ n).toArray s):(kas_sort n).kasWp cmp Q s:=by
 unfold kas_sort
 rw[JEe]
 unfold kas_count
 rw[JEe]
 refine EQ hc (n - 1) 1 (Jb _) (by exact z20 0x1001010011010110010189a1810b12882 h2 fS) ?_
 refine (JC (J0p n)).symm▸?_
 show KasT.kasWp cmp (if n<n then _ else _) Q s
 refine (JL (J0V n)).symm▸?_
 exact h
def bZ (p:Int×Int):PV:=.tup [.int 0,.int p.1,.int p.2]
section
variable {w:World}{A:Around}{E:Value->Shared->Prop}{s:Shared}
theorem z6 {a:Addr}{v:Value}{Q:PySem.Fin->J1->Prop}(ho:Jr a=some (J4Q "list" #[v] 0))
  (h:∀h',(∀b o,b≠a->Jr b=some o->JW b=some o)->(∃c,JW a=some (J4Q "list" #[v] c))->Q (.done (.ret .none)) { s with heap:=h' }):JF (model prog0 w) A (Builtin.«list.sort» ⟨[.ref a],[]⟩) Q E s:=by
 obtain⟨e1,ho1⟩:∃e1,(J3j a (J2N λy=>(#[]:Array Value))).get? a=some (J4Q "list" #[] e1):=⟨_,JE7 ho λy=> #[]⟩
 rw[list_sort_plain]
 refine kB (listItems_at ho rfl (kB (JFM ho rfl ?_ (by simp [J3U]) (J1m _))))
 refine kB (JGo ho1 rfl (kB (JEw ?_ (by simp [J3U]))))
 refine kB (JFG ?_ (J1m _))
 refine J3Y ?_
 show JF (model prog0 w) A _ Q E { s with heap:=((J3j a (J2N λy=>(#[]:Array Value))).push (J4Q "tuple" #[v] 0)).push (J4Q "list" #[] 0) }
 dsimp only
 refine kB (JI (kB (JI (kq ?_))))
 have ho2:(((J3j a (J2N λy=>(#[]:Array Value))).push (J4Q "tuple" #[v] 0)).push (J4Q "list" #[] 0)).get? a=some (J4Q "list" #[] e1):=JY _ (JY _ ho1)
 have ex:(Array.map (λx:Value×Value=>x.2) (arrOf ((),SortSt.mk' general' (#[v].zip #[v]) #[] 7 none).2))= #[v]:=by
  rw[show (#[v].zip #[v])= #[(v,v)] by simp];show Array.map (λx:Value×Value=>x.2) #[(v,v)]= #[v];simp
 rewrite [ex]
 refine kB (JGo ho2 rfl (kB (JFM ho2 rfl ?_ (J1m _) (by show (#[v]:Array Value).size<=_;simp [J3U]))))
 refine J18 (by simp) ?_
 refine JI (h _ (λb o hb e=>(J0f (((J3j a (J2N λy=>(#[]:Array Value))).push (J4Q "tuple" #[v] 0)).push (J4Q "list" #[] 0)) a (J2N λy=>(#[v]:Array Value))).extBut b o hb (JY _ (JY _ ((J0f JG a (J2N λy=>(#[]:Array Value))).extBut b o hb e)))) ⟨_,JE7 ho2 λy=> #[v]⟩)
theorem uq {l:Addr}{v:Value}{Q:Value->J1->Prop}(hl:J4W l #[v])
  (h:∀a h',JS<=a->(∀b o,Jr b=some o->JW b=some o)->(∃c,JW a=some (bG #[v] c))->Q (.ref a) { s with heap:=h' }):JF (model prog0 w) A (call (.builtin "sorted") [.ref l]) Q E s:=by
 have hsz:((J0T (J4Q "list" #[] 0)).update JS (J2N (·++[v].toArray))).objs.size=JS+1:=by rw[Heap.size_update,size_push']
 refine Calls.call_function_entry kind_sorted plain_sorted entry_sorted (args_sorted1 _) ?_
 refine kB (m:=checkCount "sorted" 1 1 _) (JI ?_)
 refine kB (collect_list (vs:=[v]) hl ?_ (by simp [J3U]))
 refine kB (JFG ?_ (by simp [J3U]))
 have hoL:(((J0T (J4Q "list" #[] 0)).update JS (J2N (·++[v].toArray))).push (J4Q "list" #[v] 0)).get? (JS+1)=some (J4Q "list" #[v] 0):=by rw[<- hsz];exact J09 _ rfl
 have keep:∀b o,Jr b=some o->(((J0T (J4Q "list" #[] 0)).update JS (J2N (·++[v].toArray))).push (J4Q "list" #[v] 0)).get? b=some o:=λb o q=>by
  have hlt:b<JS:=Jo q
  refine (JD1 _ _ _ (by rw[hsz];exact J0O (J38 hlt))).symm▸?_
  refine (J6q _ _ _ _ (J0O hlt)).symm▸?_
  refine (JD1 _ _ _ (J0O hlt)).symm▸?_
  exact q
 show JF _ _ _ _ _ { s with heap:=((J0T (J4Q "list" #[] 0)).update JS (J2N (·++[v].toArray))).push (J4Q "list" #[v] 0) }
 rw[hsz]
 refine kB (J3Y (J1X slot_list_sort (az _ hoL rfl) entry_list_sort (z6 hoL λh' k hc=>(az _ rfl ?_)) (args_list_sort _)))
 exact JI (az _ rfl (h _ h' (J4n _) (λb o e=>k b o (J0O (J38 (Jo e))) (keep b o e)) hc))
end
section
variable {w:World}{Γ:Nm}{X:Fx}{st:St}{T:List EV}{vs:List Value}{h:Heap}{n:Nat}
theorem PR.tri {fz:FzP}{p:Int×Int}{v:Value}(H:PR fz (bZ p) v):∃a k t0 t1 t2,v=.ref a/\fz a (kL #[.int 0 t0,.int p.1 t1,.int p.2 t2] k):=by
 refine e3_3 H.inv λa items k er f hi=> ?_
 refine e2_3 JH7 λv0 l0 e0 h0 hi=> ?_
 refine e2_3 JH7 λv1 l1 e1 h1 hi=> ?_
 refine e2_3 JH7 λv2 l2 e2 h2 hi=> ?_
 refine e1_1 h0.inv λt0 z0=> ?_
 refine e1_1 h1.inv λt1 z1=> ?_
 refine e1_1 h2.inv λt2 z2=> ?_
 have z3:l2=[]:=J0x hi.len.symm
 rw[e1,e2,z3,z0,z1,z2] at e0
 have e4:items= #[.int 0 t0,.int p.1 t1,.int p.2 t2]:=Array.toList_inj.mp e0
 exact⟨a,k,t0,t1,t2,er,e4▸f⟩
theorem DR {A:J7}{E:Value->J1->Prop}{s:J1}{fz:FzP}(hz:∀a o,fz a o->Jr a=some o) {p q:Int×Int}{v u:Value}(h1:PR fz (bZ p) v) (h2:PR fz (bZ q) u) (hlt:q.1<p.1) {C:Bool->J1->Prop}(hC:C false s):
  JF (model prog0 w) A (keyLt' (tuples' true) v u) C E s:=by
 refine e5_2 h1.tri λa k t0 t1 t2 er0 f1=> ?_
 refine Jm▸?_
 refine e5_2 h2.tri λb k' u0 u1 u2 er1 f2=> ?_
 refine J0y▸?_
 refine kat_lt (hz _ _ f1) rfl (hz _ _ f2) rfl (kat_cons (J2M 0 t0 0 u0 prog0 w _ _ ?_))
 refine kat_yes (kat_cons (J2M p.1 t1 q.1 u1 prog0 w _ _ ?_))
 rw[show (p.1==q.1)=false by rw[beq_eq_false_iff_ne];exact z02 0x1110230111 hlt]
 refine kat_no ?_
 refine kat_one _ _ (lt_int ?_)
 rw[show decide (p.1<q.1)=false from J0K (by exact z02 0x1110130111 hlt)]
 exact hC
theorem PRs.tups {fz:FzP}{h:Heap}(hz:∀a o,fz a o->JN a=some o) {ts:List (Int×Int)}:∀{vs:List Value},PRs fz (J6w bZ) vs->∃fs,KatTups h vs fs/\fs.length=J1w/\∀f∈fs,∃t,f=.int 0 t:=by
 induction ts with
 |nil=>
  intro vs h
  cases h
  exact⟨[],.nil,rfl,λy h=>(nomatch h)⟩
 |cons p ts ih=>
  intro vs h
  refine e2_3 J7n λy y er0 a b=> ?_
  refine Jm▸?_
  refine e5_2 a.tri λx k t0 t1 t2 er1 f=> ?_
  clear a
  refine J0y▸?_
  refine e1_3 (ih b) λfs h1 h2 h3=> ?_
  refine (i_eaa (.int 0 t0::fs) (.cons (hz _ _ f) rfl rfl rfl h1) (by simp [h2]) (λf hf=> ?_))
  refine J3a (Jf hf) (λrfl=> ?_) λhf=> ?_
  ·exact⟨t0,rfl⟩
  ·exact h3 f hf
def jQ (ts:List (Int×Int)):Prop:=ts.Pairwise λp q=>p.1<q.1
def Cj (e:EV):VC EV:=λst P=>aj (bF e st) λps=>∃ts,(ps=J6w bZ/\jQ ts/\1<=J1w/\J1w<64)/\P (.pv (.lst ps)) st
theorem xk:Op1 n (λv=>call (.builtin "sorted") [v]) Cj:=by
 intro w A Γ X B AO st T vs ea va s h t Q E P H hv hQ
 obtain⟨ps,q,ts,⟨rfl,hr,h1,h64⟩,hP⟩:=ah hv
 refine J9 H λN own ρ m R=> ?_
 refine e0_2 Jg λz zs=> ?_
 refine e3_3 (J2j B z q) λl items k er0 g1 g2=> ?_
 refine Jm▸?_
 have hlen:=J72
 have hlen:J1w=J12:=by rw[<- J6 (f:=bZ) (as:=ts),hlen];exact J0L
 have R0:=Jj zs
 by_cases h2:2<=J1w
 ·refine av (kat_sorted (s:=At s h t) (vs:=J0P) JF7 JH (aO _ g1 rfl k rfl) (by rw[J0L];exact z20 0x11010288128801a2 hlen h2) (by rw[J0L];exact z20 0x1101402f80901a402f8192 h64 hlen) λD e1 h' F' N' hlt=> ?_)
  have hz:∀a o,aI JA N own a o->JW a=some o:=λa o q=>by
   rcases q with q|⟨q,_⟩
   ·exact F'.keep _ _ (B.fz a o q)
   ·exact (N' (a,o) (Jk _ q)).1
  refine e1_3 (PRs.tups hz g2) λfs k1 k2 k3=> ?_
  refine kat_kind (s:=At s h' t) (T:=.type "int") k1 (by omega) (λf hf=> ?_) (by decide) ?_
  ·refine e1_1 (k3 f hf) λtk er1=> ?_
   refine J0y▸?_
   exact .now
  ·refine (show (J7e "int" !=J7e "tuple")=true by decide).symm▸?_
   refine BV (by rw[J0L];exact z20 0x11010288128801a2 hlen h2) (λj C hj1 hj2 hC=> ?_) ?_
   ·rw[J0L] at hj2
    have a1:(J6w bZ)[j]? =some (bZ (ts[j]'(by omega))):=by rw[JR,Jy (by omega)];rfl
    refine e1_2 (J9W a1) λv1 b1 c1=> ?_
    have a2:(J6w bZ)[j - 1]? =some (bZ (ts[j - 1]'(by exact z40 0x10011101011101091830b23921a3 hlen hj2 fS))):=by rw[JR,Jy (by exact z40 0x10011101011101091830b23921a3 hlen hj2 fS)];rfl
    refine e1_2 (J9W a2) λv2 b2 c2=> ?_
    unfold kas_ask
    refine (J02).symm▸?_
    refine (J02).symm▸?_
    refine (b1).symm▸?_
    refine (b2).symm▸?_
    exact DR (s:=At s h' t) hz c1 c2 (J2r hr _ _ _ _ (by exact z20 0x100110101091810b11882 hj1 fS)) hC
   ·refine KasFin.intro F' N' (.head λp hp=>J0O (hlt p hp)) λh'' c F'' N''=> ?_
    have e1:((JZ J6e).toArray.toList.map λi=>JCf i J9f)=J0P:=by
     refine J3B λi=> ?_
     show ((JZ J6e).map _)[i]? =_
     refine (JR).trans ?_
     by_cases hi:i<J6e
     ·rw[J4q hi,Jy hi];show some (JCf i J9f)=_;rw[J02,Jy hi];rfl
     ·rw[J0H (by simpa using hi),J0H (by simpa using hi)];rfl
    replace N'':=(e1)▸N''
    have E':=J4C (own:=own) (a:=D) (o:=bG items.toList.toArray c) (l:=.fz) λp hp=>J0O (hlt p hp)
    have R':=R0.add E' F'' N''
    exact hQ _ _ st h'' t ⟨_,_,_,_,J1e (.cons (.pv (.lst (.inr ⟨JB,br⟩) (by simpa using J2o JBx g2))) J7o)⟩ hP
 ·obtain⟨v,rfl⟩:∃v,items= #[v]:=by
   obtain⟨vs'⟩:=items
   cases vs' with
   |nil=>change J1w=0 at hlen;omega
   |cons v r=>cases r with
    |nil=>exact⟨v,rfl⟩
    |cons _ _=>change J1w=_+1+1 at hlen;omega
  refine av (uq (s:=At s h t) (aO _ g1 rfl k rfl) λa h' ha hk ⟨c,hc⟩=> ?_)
  exact hQ _ _ st h' t (R0.fzAt hk ha hc λfz' mz q=>.lst q (J2o mz g2)) hP
def Fy (a b:EV):VC Bool:=λst P=>aj (bF b st) λps=>∃(ts:List (Int×Int)) (p:Int×Int),(ps=J6w bZ/\a=.pv (bZ p))/\P (decide (p∈ts)) st
theorem re {p q:Int×Int}{t0 t1 t2 u0 u1 u2:Tok}{k k':Nat}(this:some (kL #[.int 0 t0,.int p.1 t1,.int p.2 t2] k)=some (kL #[.int 0 u0,.int q.1 u1,.int q.2 u2] k')):p=q:=by
 injection this with this
 injection this with _ _ this _
 injection this with this _
 injection this with this
 injection this with _ this
 injection this with h1 this
 injection this with h2 _
 injection h1 with h1 _
 injection h2 with h2 _
 exact Prod.ext h1 h2
theorem DS {A:J7}{s:J1}{fz:FzP}(hz:∀a o,fz a o->Jr a=some o) (hu:J4u<cLine) {p q:Int×Int}{v u:Value}(h1:PR fz (bZ p) v) (h2:PR fz (bZ q) u):PySem.SeqAt.EqAt A s v u (decide (p=q)):=by
 refine e5_2 h2.tri λb k' u0 u1 u2 er0 f2=> ?_
 refine Jm▸?_
 refine e5_2 h1.tri λa k t0 t1 t2 er1 f1=> ?_
 refine J0y▸?_
 by_cases e:a=b
 ·clear er0
  subst e
  rw[Jq (re ((hz _ _ f1).symm.trans (hz _ _ f2)))]
  exact .same _
 ·refine .of_refs e ?_
  have:=JHN (A:=A) (s:=s) (e:=λj=>if j=0 then true else if j=1 then p.1==q.1 else p.2==q.2) (aO _ (hz _ _ f1) rfl _ rfl) (aO _ (hz _ _ f2) rfl _ rfl) hu (λj h1 h2=>by
   have hj:j<3:=h1
   revert h1 h2
   exact lt3 hj (λh1 h2=>J2M 0 t0 0 u0) (λh1 h2=>J2M p.1 t1 q.1 u1) λh1 h2=>J2M p.2 t2 q.2 u2)
  have e3:((JZ (min 3 3)).all (λj=>if j=0 then true else if j=1 then p.1==q.1 else p.2==q.2)&&(3==3))=decide (p=q):=by
   show (true&&((p.1==q.1)&&((p.2==q.2)&&true))&&true)=_
   rw[JEs]
   simp [Prod.ext_iff]
  rw[<- e3];exact this
theorem Ep:OpC n .In Fy:=by
 intro w A Γ X B AO st T vs ea eb va vb s h t Q E P H hv hQ
 obtain⟨ps,q,ts,p,⟨rfl,rfl⟩,hP⟩:=ah hv
 refine J9 H λN own ρ m R=> ?_
 have AU:=AO.un
 have hz:∀a o,aI JA N own a o->JN a=some o:=λa o q=>J29 B q
 refine e0_3 J14 λz1 z2 zs=> ?_
 refine e3_3 (J2j B z1 q) λl items k er0 g1 g2=> ?_
 refine Jm▸?_
 replace z2:=z2.pvI
 classical
 have key:∀y∈items,∃r∈ts,PR (aI JA N own) (bZ r) y:=λy hy=>by
  refine e1_1 (J15 (Array.mem_toList_iff.mpr hy)) λi hi=> ?_
  have hlen:=J72
  rw[J6] at hlen
  have hlt:i<J1w:=by rw[hlen];exact get_lt' hi
  refine e1_2 (J9W (i:=i) (p:=bZ (ts[i]'hlt)) (by rw[JR,Jy hlt];rfl)) λv b c=> ?_
  replace b:=(hi)▸b
  cases b
  exact (az _ (J5g hlt) c)
 refine av (in_listAt (s:=At s h t) (λy=>if hy:∃r,PR (aI JA N own) (bZ r) y then decide (hy.choose=p) else false) (aO _ g1 rfl k rfl) (λy hy=> ?_) (hQ _ st h t H ?_))
 ·refine e1_2 (key y hy) λr z hr=> ?_
  have hy':∃r,PR (aI JA N own) (bZ r) y:=⟨r,hr⟩
  rw[JEC hy']
  exact DS (s:=At s h t) hz (by show J4u+1<cLine;exact z30 0x11118099112c3f82142fb09991 AU) J8Z z2
 ·have e:(items.any λy=>if hy:∃r,PR (aI JA N own) (bZ r) y then decide (hy.choose=p) else false)=decide (p∈ts):=by
   rw[JEs,J1v,Array.any_eq_true']
   have uniq:∀{r r':Int×Int}{y:Value},PR (aI JA N own) (bZ r) y->PR (aI JA N own) (bZ r') y->r=r':=λ{r r' y} h1 h2=>by
    refine e5_2 h1.tri λa z z z z er1 f1=> ?_
    obtain rfl:=er1
    refine e5_2 h2.tri λb z z z z e f2=> ?_
    cases e
    exact re ((hz _ _ f1).symm.trans (hz _ _ f2))
   constructor
   ·intro hq9
    refine e1_2 hq9 λy hy e=> ?_
    clear hq9
    refine e1_2 (key y hy) λr hr hp=> ?_
    have hy':∃r,PR (aI JA N own) (bZ r) y:=⟨r,hp⟩
    rw[JEC hy',J1v] at e
    rw[<- e,uniq J8Z hp];exact hr
   ·intro hp
    refine e1_1 (J15 hp) λi hi=> ?_
    refine e1_2 (J9W (i:=i) (p:=bZ p) (by rw[JR,hi];rfl)) λv b c=> ?_
    have hy':∃r,PR (aI JA N own) (bZ r) v:=⟨p,c⟩
    exact (az v (Array.mem_toList_iff.mp (J01 b)) (by rw[JEC hy',J1v];exact uniq J8Z c))
  rw[e];exact hP
def Di (b:EV):Option J23:=match b with
 | .pv (.val (.type T))=>some T
 |_=>none
theorem BQ {fz:FzP}{ρ:List Addr}{b:EV}{v:Value}{T:J23}(q:Di b=some T) (z:EVR fz ρ b v):v=.type T:=by
 cases b with
 |pv p=>cases p with
  |val u=>cases u with
   |type=>cases q;exact J58
   |_=>cases q
  |_=>cases q
 |_=>cases q
def GJ (a b:EV):VC EV:=λst P=>aj (Di b) λT=>aj (isT T) λk=>
 bj (bA a) (λy=>P (.pv (.bool k)) st) (bj (eT a) (λy=>P (.pv (.bool !k)) st) (aj (cG a) λy=>P (.pv (.bool false)) st))
theorem oZ {w:World}{A:J7}{E:Value->J1->Prop}{s:J1}{x:Array UInt8}{u:Tok}{T:J23}{Q:Value->J1->Prop}(hne:(J7e "bytes"==J7e T)=false) (hty:JDb (.type T)=pure (.type "type"))
  (hsub:JDy (.type "bytes") (.type T)=pure false) (h:Q (.bool false) { s with toks:=J3E+1 }):JF (model prog0 w) A (call (.builtin "isinstance") [.bytes x u,.type T]) Q E s:=
 call_isinstance (S:=λy R s=>R (.ok (.ret (.bool false))) { s with toks:=J3E+1 }) (λy y y y s hs=>by
  obtain⟨h,g,d,t,os⟩:=s
  exact isinstance_outer (isinstance_nested_false_bytes hne hty hsub hs) (by intro e;cases e)) h
theorem Eo:Op2 n (λv u=>call (.builtin "isinstance") [v,u]) GJ:=by
 intro w A Γ X B AO st T vs ea eb va vb s h t Q E P H hv hQ
 refine e1_2 (ah hv) λTy q1 hv=> ?_
 refine e1_2 (ah hv) λk q2 hP=> ?_
 refine e2_2 J9j λfz ρ z1 z2=> ?_
 refine (BQ q1 z2).symm▸?_
 have fin:∀(r:Bool) t',P (.pv (.bool r)) st->Q (.bool r) (At s h t'):=λr t' hP=>hQ _ _ st h t' (J8y λy y y y=>.pv (.bool r)) hP
 clear hQ H q1 hv
 refine J3a (aX hP) (λhP=> ?_) λhP=> ?_
 ·refine e1_2 (ah hP) λy q hP5=> ?_
  refine e1_1 (bz q z1) λtk er0=> ?_
  clear hP
  obtain rfl:=er0
  refine J3a (Az q2) (λh=> ?_) λh=> ?_
  ·refine e0_2 h λer0 er1=> ?_
   clear h
   obtain rfl:=er0
   obtain rfl:=er1
   exact av (IsiPair.int_int (s:=At s _ t) (fin _ _ hP5))
  ·refine e0_2 h λer2 er3=> ?_
   clear h
   obtain rfl:=er2
   obtain rfl:=er3
   exact av (IsiPair.int_str (s:=At s _ t) (fin _ _ hP5))
 refine J3a (aX hP) (λhP=> ?_) λhP=> ?_
 ·refine e1_2 (ah hP) λy q hP5=> ?_
  refine e1_1 (dt q z1) λtk er0=> ?_
  refine Jm▸?_
  refine J3a (Az q2) (λh=> ?_) λh=> ?_
  ·refine e0_2 h λer4 er5=> ?_
   clear h
   obtain rfl:=er4
   obtain rfl:=er5
   exact av (IsiPair.str_int (s:=At s _ t) (fin _ _ hP5))
  ·refine e0_2 h λer6 er7=> ?_
   clear h
   obtain rfl:=er6
   obtain rfl:=er7
   exact av (IsiPair.str_str (s:=At s _ t) (fin _ _ hP5))
 ·refine e1_2 (ah hP) λy q hP5=> ?_
  refine e1_1 (bW q z1) λtk er0=> ?_
  refine Jm▸?_
  refine J3a (Az q2) (λh=> ?_) λh=> ?_
  ·refine e0_2 h λer8 er9=> ?_
   clear h
   obtain rfl:=er8
   obtain rfl:=er9
   exact av (oZ (s:=At s _ t) (by decide+kernel) F.isi_meta_int F.sub_bytes_int (fin _ _ hP5))
  ·refine e0_2 h λer10 er11=> ?_
   clear h
   obtain rfl:=er10
   obtain rfl:=er11
   exact av (oZ (s:=At s _ t) (by decide+kernel) F.isi_meta_str F.sub_bytes_str (fin _ _ hP5))
end
end Internal
end
section
open PySem PySem.W PyProof.Rows PySem.Calls
namespace Internal
section
variable {Γ:Nm}{n:Nat}
theorem wV {c:Stmt}:jc Γ n c (λy y=>False):=by
 intro w A env X C st T vs s h t E P H hv
 exact J7a
theorem wY {b:List Stmt}:mK Γ n b (λy y=>False):=by
 intro w A env X C st T vs s h t E P H hv
 exact J7a
theorem wN {x:Str}{pos:Pos}{i:Int}{tk:Tok}{j:Nat}(hm:nth Γ.nm j=some (x,J0s)) (hg:∀w K,KOk w K->nsIn K J0q x=some (some (.int i tk))):
  Sem Γ n (.Name x pos) (λst P=>P (.pv (.int i)) st):=by
 intro w A env X C st T vs s h t Q E P H hv hQ
 refine lD hm hg C (P:=λe st'=>e=.pv (.val (.int i tk))/\P (.pv (.int i)) st') H ⟨rfl,hv⟩ λev v st' h' t' H' hP=> ?_
 obtain⟨rfl,hP⟩:=hP
 exact hQ _ v st' h' t' (H'.turn1 λfz ρ z=>by cases z with |pv z=>cases z;exact .pv (.int _ _)) hP
theorem yV {body:List Stmt}{h₀:J3t}{hs:List J3t}{pos:Pos}{vb:VC Fl}(hb:mK Γ n body vb):jc Γ n (.Try body (h₀::hs) [] [] pos) vb:=by
 intro w A env X C st T vs s h t E P H hv
 refine aa (am ?_)
 refine aa (eA (ag (hb C (E:=λy y=>False) H hv) (λf s1a h1a=> ?_) λe s1a h1a=>h1a.elim))
 cases f<;>first|exact af h1a|exact af (af h1a)
set_option tactic.hygienic true in
theorem B1 {a b:Expr}{pos:Pos}{va vb:VC EV}(ha:Sem Γ n a va) (hb:Sem Γ n b vb) (he:∀env,eval (.BoolOp .Or [a,b] pos) env=boolOp pos .Or [eval a env,eval b env]):
  Sem Γ n (.BoolOp .Or [a,b] pos) (λst P=>va st λx st1=>aj (vp x) λc=>ifB c (P (.pv (.bool true)) st1) (vb st1 P)):=by
 intro w A env X C st T vs s h t Q E P H hv hQ
 refine aa (ha C H hv λev v st1 h1 t1 H1 hv1=> ?_)
 refine e1_2 (ah hv1) λc q hv1=> ?_
 refine e2_1 JBu λfz ρ z=> ?_
 obtain rfl:=s5 q z
 refine aa (am (aa (ai (bx ?_))))
 cases c with
 |true=>
  have:ev=.pv (.bool true):=by
   cases ev with
   |pv p=>cases p<;>first|(cases q;rfl)|cases q
   |_=>cases q
  exact af (hQ _ _ st1 h1 t1 H1 (this▸hv1))
 |false=>exact hb C JEh hv1 hQ
def CR (nm:List (Str×J1T)) (env:Env) (sc:Scope):Env:={ env with scope:={ sc with kind:=.function,names:=nm } }
theorem we {w:World}{A:J7}{env:Env}{X:Fx}(C:Cx w A env Γ X n):CR Γ.nm env env.scope=env:=by
 have h1:=J5h
 have h2:=C.nms
 unfold CR
 rw[<- h1,<- h2]
end
theorem Sem.nm {Γ:Nm}{n:Nat}{e:Expr}{vc:VC EV}(H:Sem Γ n e vc):Sem Γ n e (λst P=>vc st λev st'=>fEV ev λev=>fSt st' λst'=>P ev st'):=by
 intro w A env X C st T vs s h t Q E P R hv hQ
 exact H C R hv λev v st' h' t' R' hP=>hQ ev v st' h' t' R' (v7.mp (v9.mp hP))
theorem cO.nm {Γ:Nm}{n:Nat}{e:Expr}{vc:EV->VC Unit}(H:cO Γ n e vc):cO Γ n e (λev st P=>vc ev st λu st'=>fSt st' λst'=>P u st'):=by
 intro w A env X C st T vs ea va s h t Q E P R hv hQ
 exact H C R hv λst' h' t' R' hP=>hQ st' h' t' R' (v7.mp hP)
theorem cZ.nm {Γ:Nm}{n:Nat}{x:Str}{vc:EV->VC Unit}(H:cZ Γ n x vc):cZ Γ n x (λev st P=>vc ev st λu st'=>fSt st' λst'=>P u st'):=by
 intro w A env X C st T vs ea va s h t Q E P R hv hQ
 exact H C R hv λst' h' t' R' hP=>hQ st' h' t' R' (v7.mp hP)
structure PE (Γ:Nm) (n:Nat) (e:Expr) where
 vc:VC EV
 ck:Bool
 ok:ck=true->Sem Γ n e vc
 pl:∀rest env,Je (e::rest) env=(false,eval e env)::Je rest env
structure PI (Γ:Nm) (n:Nat) (e:Expr) where
 vc:VC Bool
 ck:Bool
 ok:ck=true->eV Γ n e vc
structure PL (Γ:Nm) (n:Nat) (es:List Expr) where
 vc:VC (List EV)
 ck:Bool
 ok:ck=true->gj Γ n es vc
 pa:bX es
 pn:∀(env:Env) (pos:Pos),(J00 pos (Je es env)).any (·.1)=false
structure PT (Γ:Nm) (n:Nat) (t:Expr) where
 vc:EV->VC Unit
 ck:Bool
 ok:ck=true->cO Γ n t vc
 st:∀rest env,J1V (t::rest) env=(false,J5d t env)::J1V rest env
structure PQ (Γ:Nm) (n:Nat) (ts:List Expr) where
 vc:List EV->VC Unit
 ck:Bool
 ok:ck=true->StL Γ n (λenv=>(J1V ts env).map (·.2)) vc
 h1:∀env,(J1V ts env).findIdx? (·.1)=none
 h2:∀env,(J1V ts env).length=J1w
structure PS (Γ:Nm) (n:Nat) (c:Stmt) where
 vc:VC Fl
 ck:Bool
 ok:ck=true->jc Γ n c vc
structure PB (Γ:Nm) (n:Nat) (b:List Stmt) where
 vc:VC Fl
 ck:Bool
 ok:ck=true->mK Γ n b vc
structure PJ (Γ Γt:Nm) (n:Nat) (it tg:Expr) where
 vt:List PV->VC Unit
 vi:VC (List (List PV)×(St->Prop))
 ck:Bool
 ok:ck=true->dQ Γ Γt n it tg vt vi
 hf:∀env x,J2K it env x=pure x
structure PP (Γ:Nm) (n:Nat) (e:Option Expr) where
 vc:VC (Option Int)
 ck:Bool
 ok:ck=true->s7 Γ n e vc
structure PTs (Γ:Nm) (n:Nat) (ifs:List Expr) where
 vc:VC Bool
 ck:Bool
 ok:ck=true->o8 Γ n ifs vc
structure BF (id:Str) (n:Nat) where
 v:Value
 prim:List EV->VC EV
 i:Nat
 hi:nth bltT i=some id
 hb:JGJ id=some v
 hne:id≠"__name__"
 hk:jR v
 hc:bh n v prim
structure BM (name:Str) (n:Nat) where
 Ty:J23
 id:J23
 prim:List EV->VC EV
 pa:JCw Ty
 slot:Slot Ty name id
 hty:JDb (.builtin id)=pure (.type "method_descriptor")
 hc:bh n (.builtin id) prim
theorem vX {name:Str}(h:JHI name=false):wq name none:=λz=>by
 have:JHI name=true:=List.contains_iff_mem.mpr z
 rw[h] at this;cases this
theorem aL {a b:Bool}(h:(a&&b)=true):a=true:=(J07 h).1
theorem aR {a b:Bool}(h:(a&&b)=true):b=true:=(J07 h).2
theorem aD {p:Prop}[Decidable p] {b:Bool}(h:(decide p&&b)=true):p:=J05 (aL h)
theorem nB {b:Bool}(h:(!b)=true):b=false:=by cases b<;>first|rfl|cases h
def ckN (Γ:Nm) (j:Nat) (x:Str) (k:J1T):Bool:=decide (nth Γ.nm j=some (x,k))
def ckS (l:List Str) (i:Nat) (x:Str):Bool:=decide (nth l i=some x)
def ckF (i:Nat) (x:Str) (f:Addr):Bool:=decide (nth globT i=some (x,.ref f))
theorem EJ {i:Nat}{x:Str}{f:Addr}(h:ckF i x f=true):nth globT i=some (x,.ref f):=J05 h
def CY (i:Nat):Addr×List Nat:=(nth clsT i).getD (0,[])
theorem qC {i:Nat}(h:(nth clsT i).isSome=true):nth clsT i=some (CY i):=by
 unfold CY
 obtain⟨p,q⟩:=J8m h
 rw[q];rfl
def ckA (i k:Nat) (x:Str):Bool:=(nth clsT i).isSome&&(decide (k∈(CY i).2)&&decide (x=ak k))
def ckK (name:Str):Option Nat->Bool
 |some k=>decide (k<J1L)&&decide (ak k=name)
 |none=> !aF.contains name
theorem EI {name:Str}:∀{kk:Option Nat},ckK name kk=true->wq name kk
 |some k,h=>⟨aD h,J05 (aR h)⟩
 |none,h=>vX (nB h)
def kd (e:Expr):Nat:=[0,0,0,0,0,0,0,3,1,1,1,0,0,0,0,0,5,0,0,0,0,0,0,0,2,2,4].getD e.ctorIdx 0
def isK (k:Nat) (e:Expr):Bool:=J1z (kd e) k
theorem Dj {e:Expr}(h:isK 1 e=false) (t:Option Expr) (l:Nat) (env:Env):JDe e t l env=pure false:=by
 cases e<;>first|rfl|cases h
theorem tH (ts:List Expr) (k:Nat) (tp:Pos) (e:Expr) (l:Nat) (env:Env):J33 [.Tuple ts k tp] e l env=pure false:=by
 cases e<;>rfl
theorem Fc {t:Expr}(h:isK 2 t=false) (e:Expr) (env:Env):J20 [t] e env=pure none:=by
 cases t<;>first|rfl|cases h
theorem DU {e:Expr}(h:isK 2 e=false) (ts:List Expr) (k:Nat) (p:Pos) (env:Env):J20 [.Tuple ts k p] e env=pure none:=by
 cases e<;>first|rfl|cases h
theorem v5 {e:Expr}(h:isK 3 e=false) (env:Env) (x:Value):J2K e env x=pure x:=by
 cases e<;>first|rfl|cases h
theorem BS {e:Expr}(h:isK 4 e=false) (o i:Value):J6Z e false o i=operate [o,i] (JBc o i):=by
 cases e<;>first|rfl|cases h
theorem DT {e:Expr}(h:isK 4 e=false):BB e:=λo i=>⟨_,BS h o i⟩
theorem wj {o:Expr}(h:isK 5 o=false) (x:Str) (env:Env) (m:J1M Value):JA2 o x env m=m:=by
 cases o<;>first|rfl|cases h
theorem ED {o:Expr}(h:isK 5 o=false) (x:Str) (p:Pos) (env:Env):eval (.Attribute o x p) env=(do
   let o' <- eval o env
   standAt p.atName
   let r <- holding [o'] (getAttr o' x true)
   J6R o o' r
   pure r):=by
 show (JA2 o x env (eval o env)>>=_)=_
 rw[wj h]
theorem AV {o:Expr}(h:isK 5 o=false) (name:Str) (q p:Pos) {args:List Expr}(env:Env) (hp:(JDo==J9T)=true) (hl:decide (J1J<30)=true) (ha:(J00 p (Je args env)).any (·.1)=false):eval (.Call (.Attribute o name q) args [] p) env=(do
   let ov <- eval o env
   standAt JC8
   let (f,first) <- holding [ov] (getMethod ov name (do return (<- importBound o env).getD true))
   J2C p f first (J00 p (Je args env)) (J4Y p (J2V [] env))):=by
 show (JA2 o name env (eval o env)>>=λov=>do standAt JC8;methodCall o name q p env ov (J1J+0) (J00 p (Je args env)) (J4Y p (J2V [] env)))=_
 rw[wj h]
 have f:methodCallForm (J1J+0) (J00 p (Je args env)) (J4Y p (J2V [] env))=true:=by
  have a1:(J00 p (Je args env)).all (λx=> !x.1)=true:=(List.not_any_eq_all_not ..).symm.trans (by rw[ha];rfl)
  show ((J00 p (Je args env)).all (λx=> !x.1)&&true&&decide (J1J<30))=true
  rw[a1,hl];rfl
 unfold methodCall
 rw[f]
 unfold methodCallPos
 rw[hp]
 rfl
structure s6 (vi:VC (List (List PV)×(St->Prop))) (vt:List PV->VC Unit) (vtest:VC Bool) (ve:VC EV) (nk:List (Option EV)) (st:St) (P:EV->St->Prop):Prop where
 out:yk vi vt vtest ve nk st P
structure ER (vi:VC (List (List PV)×(St->Prop))) (vt:List PV->VC Unit) (vb:VC Fl) (st:St) (P:Fl->St->Prop):Prop where
 out:vi st λ(ik:List (List PV)×(St->Prop)) st1=>∃J:Nat->St->Prop,J 0 st1/\
   (∀k x st2,ik.1[k]? =some x->J k st2->∀K:St->Prop,(∀st,J (k+1) st->K st)->ik.2 st2/\vt x st2 λy st3=>vb st3 (vW K P))/\(∀st2,J ik.1.length st2->ik.2 st2/\P .next st2)
theorem pP (m:Nat):∀(i:Nat) (e:EV),(J0E m (none:Option EV))[i]?≠some (some e):=λi e h=>by
 rw[List.getElem?_replicate] at h;split at h<;>cases h
section
variable {Γ Γc:Nm}{n:Nat}
noncomputable section
def PE.loc (j i:Nat) {x:Str}{p:Pos}:PE Γ n (.Name x p):=⟨_,ckN Γ j x .local&&(!Γ.comp&&ckS Γ.ln i x),λh=>oQ (aD h) (nB (aL (aR h))) (J05 (aR (aR h))),λy y=>rfl⟩
def PE.clo (j i:Nat) {x:Str}{p:Pos}:PE Γ n (.Name x p):=⟨_,ckN Γ j x .local&&(Γ.comp&&ckS Γ.kn i x),λh=>tS (aD h) (aL (aR h)) (J05 (aR (aR h))),λy y=>rfl⟩
def PE.cel (j i:Nat) {x:Str}{p:Pos}:PE Γ n (.Name x p):=⟨_,ckN Γ j x .cell&&ckS Γ.cn i x,λh=>yL (aD h) (J05 (aR h)),λy y=>rfl⟩
def PE.gli (j i:Nat) {x:Str}{p:Pos}{k:Int}{t:Tok}(hg:Jl (nth globT i=some (x,.int k t)) Jn):PE Γ n (.Name x p):=⟨_,ckN Γ j x .globalImplicit,λh=>wN (J05 h) (vY i hg),λy y=>rfl⟩
def PE.blt (j:Nat) {x:Str}(b:BF x n) {p:Pos}:PE Γ n (.Name x p):=⟨_,ckN Γ j x .globalImplicit,λh=>pz (J05 h) (Ez b.i b.hi) b.hb b.hne,λy y=>rfl⟩
def PE.int {i:Int}{k:Nat}{p:Pos}:PE Γ n (.Constant (.int i) k p):=⟨_,true,λy=>py,λy y=>rfl⟩
def PE.str {i:Str}{k:Nat}{p:Pos}:PE Γ n (.Constant (.str i) k p):=⟨_,true,λy=>BZ,λy y=>rfl⟩
def PE.byt {i:List UInt8}{k:Nat}{p:Pos}:PE Γ n (.Constant (.bytes i) k p):=⟨_,true,λy=>wP,λy y=>rfl⟩
def PE.boo {i:Bool}{k:Nat}{p:Pos}:PE Γ n (.Constant (.bool i) k p):=⟨_,true,λy=>yM,λy y=>rfl⟩
def PE.non {k:Nat}{p:Pos}:PE Γ n (.Constant .none k p):=⟨_,true,λy=>yF,λy y=>rfl⟩
def PE.bin {op:JFk}{prim:EV->EV->VC EV}(hp:Op2 n (J3Q op) prim) {l r:Expr}{p:Pos}(a:PE Γ n l) (b:PE Γ n r):PE Γ n (.BinOp l op r p):=⟨_,Jc&&JAJ,λh=>wQ (Jd (aL h)) (JAq (aR h)) hp,λy y=>rfl⟩
def PE.cmp {op:CmpOp}{prim:EV->EV->VC Bool}(hp:OpC n op prim) {l r:Expr}{p:Pos}(a:PE Γ n l) (b:PE Γ n r):PE Γ n (.Compare l [op] [r] p):=⟨_,Jc&&(JAJ&& !behindInMarks op r),λh=>B2 (Jd (aL h)) (JAq (aL (aR h))) hp (nB (aR (aR h))),λy y=>rfl⟩
def PE.ch2 {op1 op2:CmpOp}{p1a p2a:EV->EV->VC Bool}(h1a:OpC n op1 p1a) (h2a:OpC n op2 p2a) {l r1a r2a:Expr}{p:Pos}(a:PE Γ n l) (b:PE Γ n r1a) (c:PE Γ n r2a)
  (hl:Jl (∀env,eval (.Compare l [op1,op2] [r1a,r2a] p) env=(do JAo p (<- eval l env) [op1,op2] [eval r1a env,eval r2a env])) Jn):PE Γ n (.Compare l [op1,op2] [r1a,r2a] p):=⟨_,Jc&&(JAJ&&c.ck),λh=>tT (Jd (aL h)) (JAq (aL (aR h))) (c.ok (aR (aR h))) h1a h2a hl,λy y=>rfl⟩
def PE.ife {c a b:Expr}{p:Pos}(x:PI Γ n c) (y:PE Γ n a) (z:PE Γ n b):PE Γ n (.IfExp c a b p):=⟨_,x.ck&&(y.ck&&z.ck),λh=>wM (x.ok (aL h)) (y.ok (aL (aR h))) (z.ok (aR (aR h))),λo o=>rfl⟩
def PE.or2 {a b:Expr}{p:Pos}(x:PE Γ n a) (y:PE Γ n b):PE Γ n (.BoolOp .Or [a,b] p):=⟨_,x.ck&&y.ck,λh=>B1 (x.ok (aL h)) (y.ok (aR h)) λz=>rfl,λz z=>rfl⟩
def PE.tup {es:List Expr}{k:Nat}{p:Pos}(a:PL Γ n es):PE Γ n (.Tuple es k p):=⟨_,Jc,λh=>wJ (Jd h),λy y=>rfl⟩
def PE.lst {es:List Expr}{p:Pos}(a:PL Γ n es):PE Γ n (.List es p):=⟨_,Jc,λh=>yG (Jd h),λy y=>rfl⟩
def PE.lsS {es:List Expr}{p:Pos}(a:PL Γ n es):PE Γ n (.List es p):=⟨_,Jc,λh=>J5e (oR (Jd h)),λy y=>rfl⟩
def PE.sub {o i:Expr}{p:Pos}(a:PE Γ n o) (b:PE Γ n i):PE Γ n (.Subscript o i p):=⟨_,!isK 4 i&&(Jc&&JAJ),λh=>BY (DT (nB (aL h))) (Jd (aL (aR h))) (JAq (aR (aR h))),λy y=>rfl⟩
def PP.non:PP Γ n none:=⟨_,true,λy=>tW⟩
def PP.som {e:Expr}(a:PE Γ n e):PP Γ n (some e):=⟨_,Jc,λh=>tV (Jd h)⟩
def PE.slc {o:Expr}{lo hi:Option Expr}{q p:Pos}(a:PE Γ n o) (b:PP Γ n lo) (c:PP Γ n hi):PE Γ n (.Subscript o (.Slice lo hi none q) p):=⟨_,Jc&&(JAJ&&c.ck),λh=>wK (Jd (aL h)) (JAq (aL (aR h))) (c.ok (aR (aR h))),λy y=>rfl⟩
def PE.key (k:Nat) {o:Expr}{x:Str}{kk:Nat}{kp p:Pos}(a:PE Γ n o):PE Γ n (.Subscript o (.Constant (.str x) kk kp) p):=⟨_,Jc&&(decide (x=ak k)&&decide (k<J1L)),λh=>tQ (Jd (aL h)) (aD (aR h)) (J05 (aR (aR h))),λy y=>rfl⟩
def PE.att (ci k:Nat) {o:Expr}{x:Str}{p:Pos}(a:PE Γ n o):PE Γ n (.Attribute o x p):=⟨_,ckA ci k x&&(!isK 5 o&&Jc),λh=>yS (Jd (aR (aR h))) (CJ ci (qC (aL (aL h)))) (aD (aR (aL h))) (J05 (aR (aR (aL h)))) (ED (nB (aL (aR h))) x p),λy y=>rfl⟩
def PE.fz {e:Expr}(a:PE Γ n e):PE Γ n e:=⟨_,Jc,λh=>J5e (DY (Jd h)),a.pl⟩
def PE.fn (j gi ki:Nat) {f:Addr}{id:Str}{q p:Pos}{args:List Expr}{prim:List EV->VC EV}(hc:bh n (.ref f) prim) (a:PL Γ n args):PE Γ n (.Call (.Name id q) args [] p):=
 ⟨_,ckN Γ j id .globalImplicit&&(ckF gi id f&&(decide (nth keepT ki=some f)&&Jc)),λh=>J5e (oS (j:=j) (lD (aD h) (vY gi (EJ (aL (aR h))))) (.inl ⟨f,rfl,sk ki (aD (aR (aR h)))⟩) hc (Jd (aR (aR (aR h)))) a.pa),λy y=>rfl⟩
def PE.bf (j:Nat) {id:Str}(b:BF id n) {q p:Pos}{args:List Expr}(a:PL Γ n args):PE Γ n (.Call (.Name id q) args [] p):=
 ⟨_,ckN Γ j id .globalImplicit&&Jc,λh=>J5e (oS (j:=j) (pz (aD h) (Ez b.i b.hi) b.hb b.hne) b.hk b.hc (Jd (aR h)) a.pa),λy y=>rfl⟩
def PE.me (ci mi ki:Nat) (kk:Option Nat) {f:Addr}{o:Expr}{name:Str}{q p:Pos}{args:List Expr}{prim:List EV->VC EV}(hc:bh n (.ref f) prim) (x:PE Γ n o) (a:PL Γ n args):PE Γ n (.Call (.Attribute o name q) args [] p):=
 ⟨_,((nth clsT ci).isSome&&(decide (nth methT mi=some ((CY ci).1,name,f))&&(decide (nth keepT ki=some f)&&ckK name kk)))&&((!isK 5 o&&((JDo==J9T)&&decide (J1J<30)))&&(x.ck&&Jc)),
  λh=>J5e (tR (x.ok (aL (aR (aR h)))) (CJ ci (qC (aL (aL h)))) (d6 mi (aD (aR (aL h)))) (EI (kk:=kk) (aR (aR (aR (aL h))))) (.inl ⟨f,rfl,sk ki (aD (aR (aR (aL h))))⟩) hc (Jd (aR (aR (aR h)))) a.pa (λenv=>do return (<- importBound o env).getD true)
   λenv=>AV (nB (aL (aL (aR h)))) name q p env (aL (aR (aL (aR h)))) (aR (aR (aL (aR h)))) (a.pn env p)),λy y=>rfl⟩
def PE.bm {name:Str}(b:BM name n) {o:Expr}{q p:Pos}{args:List Expr}(x:PE Γ n o) (a:PL Γ n args):PE Γ n (.Call (.Attribute o name q) args [] p):=
 ⟨_,(!isK 5 o&&((JDo==J9T)&&decide (J1J<30)))&&(x.ck&&Jc),
  λh=>J5e (oT b.pa b.slot b.hty (x.ok (aL (aR h))) b.hc (Jd (aR (aR h))) a.pa (λenv=>do return (<- importBound o env).getD true)
   λenv=>AV (nB (aL (aL h))) name q p env (aL (aR (aL h))) (aR (aR (aL h))) (a.pn env p)),λy y=>rfl⟩
def PE.bmx {name:Str}(b:BM name n) {o:Expr}{q p:Pos}{args:List Expr}(x:PE Γ n o) (a:PL Γ n args)
  (he:Jl (∀env,eval (.Call (.Attribute o name q) args [] p) env=(do
   let ov <- eval o env
   standAt JC8
   let (f,first) <- holding [ov] (getMethod ov name (do return (<- importBound o env).getD true))
   J2C p f first (J00 p (Je args env)) (J4Y p (J2V [] env)))) Jn):PE Γ n (.Call (.Attribute o name q) args [] p):=
 ⟨_,x.ck&&Jc,λh=>J5e (oT b.pa b.slot b.hty (x.ok (aL h)) b.hc (Jd (aR h)) a.pa (λenv=>do return (<- importBound o env).getD true) he),λy y=>rfl⟩
def PE.com (m:Nat) {elt tgt iter:Expr}{ifs:List Expr}{scope:Scope}{p:Pos}(i:PJ Γ Γc n iter tgt) (t:PTs Γc n ifs) (e:PE Γc n elt) (hO:fv Γ Γc scope):PE Γ n (.ListComp elt [⟨tgt,iter,ifs,0⟩] scope p):=
 ⟨s6 i.vi i.vt t.vc e.vc (J0E m none),i.ck&&(t.ck&&e.ck),λh y y y y C y y y y y y y y y H hv hQ=>yK (i.ok (aL h)) (t.ok (aL (aR h))) (e.ok (aR (aR h))) hO (pP m) i.hf C H JE0 hQ,λy y=>rfl⟩
def PE.di0 {p:Pos}:PE Γ n (.Dict [] [] p):=⟨_,true,λy=>J5e wO,λy y=>rfl⟩
def PL.nil:PL Γ n []:=⟨_,true,λy=>rl,ul,λy y=>rfl⟩
def PL.con {e:Expr}{rest:List Expr}(a:PE Γ n e) (b:PL Γ n rest):PL Γ n (e::rest):=⟨_,Jc&&JAJ,λh=>wW (Jd (aL h)) (JAq (aR h)) (a.pl rest),uk (a.pl rest) b.pn,λenv pos=>by
 rw[a.pl];show (false||(J00 pos (Je rest env)).any (·.1))=false;rw[b.pn];rfl⟩
def PI.cmp {op:CmpOp}{prim:EV->EV->VC Bool}(hp:OpC n op prim) {l r:Expr}{p:Pos}(a:PE Γ n l) (b:PE Γ n r):PI Γ n (.Compare l [op] [r] p):=⟨_,Jc&&(JAJ&& !behindInMarks op r),λh=>yZ (Jd (aL h)) (JAq (aL (aR h))) hp (nB (aR (aR h)))⟩
def PI.ch2 {op1 op2:CmpOp}{p1a p2a:EV->EV->VC Bool}(h1a:OpC n op1 p1a) (h2a:OpC n op2 p2a) {l r1a r2a:Expr}{p:Pos}(a:PE Γ n l) (b:PE Γ n r1a) (c:PE Γ n r2a):PI Γ n (.Compare l [op1,op2] [r1a,r2a] p):=
 ⟨_,Jc&&(JAJ&&(c.ck&& !lastMarks [op1,op2] [r1a,r2a])),λh=>ro (Jd (aL h)) (JAq (aL (aR h))) (c.ok (aL (aR (aR h)))) h1a h2a (nB (aR (aR (aR h))))⟩
def PI.nt {e:Expr}{p:Pos}(a:PI Γ n e):PI Γ n (.UnaryOp .Not e p):=⟨_,Jc,λh=>yY (Jd h)⟩
def PI.tru {e:Expr}(a:PE Γ n e) (hd:Jl (∀env,J0N e env (eval e env)=(do let v <- eval e env;standAt e.pos;holding [v] (truthy v))) Jn):PI Γ n e:=⟨_,Jc,λh=>tY (Jd h) zT hd⟩
def PI.an0 {p:Pos}:PI Γ n (.BoolOp .And [] p):=⟨_,true,λy=>pD⟩
def PI.or0 {p:Pos}:PI Γ n (.BoolOp .Or [] p):=⟨_,true,λy=>rn⟩
def PI.an {e:Expr}{r:List Expr}{p:Pos}(a:PI Γ n e) (b:PI Γ n (.BoolOp .And r p)):PI Γ n (.BoolOp .And (e::r) p):=⟨_,Jc&&JAJ,λh=>y4 (Jd (aL h)) (JAq (aR h))⟩
def PI.or {e:Expr}{r:List Expr}{p:Pos}(a:PI Γ n e) (b:PI Γ n (.BoolOp .Or r p)):PI Γ n (.BoolOp .Or (e::r) p):=⟨_,Jc&&JAJ,λh=>B4 (Jd (aL h)) (JAq (aR h))⟩
def PTs.nil:PTs Γ n []:=⟨_,true,λy=>wS⟩
def PTs.one {c:Expr}(a:PI Γ n c):PTs Γ n [c]:=⟨_,Jc,λh=>wR (Jd h)⟩
def PT.loc (j i:Nat) {x:Str}{p:Pos}:PT Γ n (.Name x p):=⟨_,ckN Γ j x .local&&(!Γ.comp&&ckS Γ.ln i x),λh=>JFc (jv (fU (aD h) (nB (aL (aR h))) (J05 (aR (aR h))))),λy y=>rfl⟩
def PT.cel (j i:Nat) {x:Str}{p:Pos}:PT Γ n (.Name x p):=⟨_,ckN Γ j x .cell&&ckS Γ.cn i x,λh=>JFc (jv (tM (aD h) (J05 (aR h)))),λy y=>rfl⟩
def PT.clo (j i:Nat) {x:Str}{p:Pos}:PT Γ n (.Name x p):=⟨_,ckN Γ j x .local&&(Γ.comp&&ckS Γ.kn i x),λh=>JFc (jv (tL (aD h) (aL (aR h)) (J05 (aR (aR h))))),λy y=>rfl⟩
def PT.att (ci k:Nat) {o:Expr}{x:Str}{p:Pos}(a:PE Γ n o):PT Γ n (.Attribute o x p):=⟨_,ckA ci k x&&Jc,λh=>JFc (wT (Jd (aR h)) (CJ ci (qC (aL (aL h)))) (aD (aR (aL h))) (J05 (aR (aR (aL h))))),λy y=>rfl⟩
def PT.sub {o i:Expr}{p:Pos}(a:PE Γ n o) (b:PE Γ n i):PT Γ n (.Subscript o i p):=⟨_,Jc&&JAJ,λh=>JFc (yU (Jd (aL h)) (JAq (aR h))),λy y=>rfl⟩
def PT.key (k:Nat) {o:Expr}{x:Str}{kk:Nat}{kp p:Pos}(a:PE Γ n o):PT Γ n (.Subscript o (.Constant (.str x) kk kp) p):=⟨_,Jc&&(decide (x=ak k)&&decide (k<J1L)),λh=>JFc (rk (Jd (aL h)) (aD (aR h)) (J05 (aR (aR h)))),λy y=>rfl⟩
def PQ.nil:PQ Γ n []:=⟨_,true,λy=>vQ,λy=>rfl,λy=>rfl⟩
theorem BU {t:Expr}{rest:List Expr}(a:PT Γ n t) (b:PQ Γ n rest) (h:(Jc&&JAJ)=true):StL Γ n (λenv=>(J1V (t::rest) env).map (·.2)) (E0 a.vc b.vc):=by
 rw[show (λenv=>(J1V (t::rest) env).map (·.2))=λenv=>J5d t env::(J1V rest env).map (·.2) from funext λenv=>by rw[a.st];rfl]
 exact rg (f:=λenv=>J5d t env) (Jd (aL h)) (JAq (aR h))
theorem rj {nm:Str}{q:Pos}{j:Nat}{V:Value}(b:BF nm n) (hv:b.v=V) (hm:nth Γ.nm j=some (nm,J0s)):Sem Γ n (.Name nm q) (λst P=>P (.pv (.val V)) st):=by
 subst hv
 exact pz hm (Ez b.i b.hi) b.hb b.hne
def PQ.con {t:Expr}{rest:List Expr}(a:PT Γ n t) (b:PQ Γ n rest):PQ Γ n (t::rest):=⟨_,Jc&&JAJ,BU a b,λenv=>by rw[a.st,List.findIdx?_cons,b.h1];rfl,λenv=>by rw[a.st,J0w,b.h2];rfl⟩
def PT.tup {ts:List Expr}{k:Nat}{p:Pos}(a:PQ Γ n ts):PT Γ n (.Tuple ts k p):=⟨_,Jc,λh=>lE (Jd h) a.h1 a.h2,λy y=>rfl⟩
def PS.ret {e:Expr}{p:Pos}(a:PE Γ n e):PS Γ n (.Return (some e) p):=⟨_,Jc,λh=>yW (Jd h)⟩
def PS.asg {t e:Expr}{p:Pos}(b:PT Γ n t) (a:PE Γ n e):PS Γ n (.Assign [t] e p):=
 ⟨_,(!isK 1 e&& !isK 2 t)&&(Jc&&JAJ),λh=>pB (Jd (aL (aR h))) (JAq (aR (aR h))) (Dj (nB (aL (aL h))) _ _) (Fc (nB (aR (aL h))) e) λenv=>by rw[b.st];rfl⟩
def PS.asT {ts:List Expr}{k:Nat}{tp:Pos}{e:Expr}{p:Pos}(b:PQ Γ n ts) (a:PE Γ n e):PS Γ n (.Assign [.Tuple ts k tp] e p):=
 ⟨_,!isK 2 e&&(Jc&&JAJ),λh=>lF (Jd (aL (aR h))) (lE (JAq (aR (aR h))) b.h1 b.h2) (tH ts k tp e J9T) (DU (nB (aL h)) ts k tp)⟩
def PS.asN {ts es:List Expr}{k k':Nat}{tp ep p:Pos}(b:PQ Γ n ts) (a:PL Γ n es) (hw:∀env sc,J20 [.Tuple ts k tp] (.Tuple es k' ep) (CR Γ.nm env sc)=pure none:=by intro _ _;rfl):PS Γ n (.Assign [.Tuple ts k tp] (.Tuple es k' ep) p):=
 ⟨_,J8p J1w 3&&(Jc&&JAJ),λh=>pA (Jd (aL (aR h))) (JAq (aR (aR h))) b.h1 b.h2 (J0G (aL h)) (tH ts k tp _ J9T) λC=>(JD _ (we C)).symm.trans (hw _ _)⟩
structure PN (Γ:Nm) (n:Nat) (xs:List Str) where
 vc:List EV->VC Unit
 ck:Bool
 ok:ck=true->StL Γ n (λenv=>J8G λx=>J8A env x) vc
def PN.nil:PN Γ n []:=⟨_,true,λy=>vQ⟩
theorem C6 {x:Str}{vc:EV->VC Unit}(hs:cZ Γ n x vc) {{w:World}} {{A:J7}} {{env:Env}} {{X:Fx}} (C:Cx w A env Γ X n) {{st:St}} {{T:List EV}} {{vs:List Value}} {{ea:EV}} {{v:Value}} {{s:J1}} {{h:Heap}} {{t:Nat}} {{Q:Unit->J1->Prop}} {{E:Value->J1->Prop}} {{P:Unit->St->Prop}}
  (H:Rel w Γ X st (ea::T) (v::vs) h) (hv:vc ea st P) (hQ:∀st' h' t',Rel w Γ X st' T vs h'->P () st'->Q () (At s h' t')):ae (model prog0 w) A (J8A env x v) Q E (At s h t):=fP (hs C H hv hQ)
def PN.loc (j i:Nat) {x:Str}{xs:List Str}(b:PN Γ n xs):PN Γ n (x::xs):=⟨_,(ckN Γ j x .local&&(!Γ.comp&&ckS Γ.ln i x))&&JAJ,λh=>rg (C6 (cZ.nm (fU (aD (aL h)) (nB (aL (aR (aL h)))) (J05 (aR (aR (aL h))))))) (JAq (aR h))⟩
def PS.asW {ts es:List Expr}{k k':Nat}{tp ep p:Pos}{names:List Str}(b:PN Γ n names.reverse) (a:PL Γ n es) (hw:∀env sc,J20 [.Tuple ts k tp] (.Tuple es k' ep) (CR Γ.nm env sc)=pure (some names):=by intro _ _;rfl):PS Γ n (.Assign [.Tuple ts k tp] (.Tuple es k' ep) p):=
 ⟨_,J8p J5s 3&&(Jc&&JAJ),λh=>nz (Jd (aL (aR h))) (JAq (aR (aR h))) (J0G (aL h)) (tH ts k tp _ J9T) λC=>(JD _ (we C)).symm.trans (hw _ _)⟩
def PS.iff {c:Expr}{a b:List Stmt}{p:Pos}(x:PI Γ n c) (y:PB Γ n a) (z:PB Γ n b):PS Γ n (.If c a b p):=⟨_,x.ck&&(y.ck&&z.ck),λh=>B3 (x.ok (aL h)) (y.ok (aL (aR h))) (z.ok (aR (aR h)))⟩
def PS.whi {c:Expr}{b:List Stmt}{p:Pos}(x:PI Γ n c) (y:PB Γ n b):PS Γ n (.While c b [] p):=⟨_,x.ck&&y.ck,λh=>tU (x.ok (aL h)) (y.ok (aR h))⟩
def PS.fr {t i:Expr}{b:List Stmt}{p:Pos}(x:PJ Γ Γ n i t) (y:PB Γ n b):PS Γ n (.For t i b [] p):=⟨λst P=>ER x.vi x.vt y.vc st P,x.ck&&y.ck,λh z z z z C z z z z z z z z H hv=>yX (x.ok (aL h)) (y.ok (aR h)) x.hf C H JE0⟩
def PS.exp {e:Expr}{p:Pos}(a:PE Γ n e):PS Γ n (.Expr e p):=⟨_,!isK 1 e&&Jc,λh=>wU (Jd (aR h)) (Dj (nB (aL h)) _ _)⟩
def PS.ded {c:Stmt}:PS Γ n c:=⟨_,true,λy=>wV⟩
def PS.try {b:List Stmt}{h:J3t}{hs:List J3t}{p:Pos}(a:PB Γ n b):PS Γ n (.Try b (h::hs) [] [] p):=⟨_,Jc,λh=>yV (Jd h)⟩
def PS.asC (j i m:Nat) {x:Str}{px:Pos}{elt tgt iter:Expr}{ifs:List Expr}{scope:Scope}{p q:Pos}(it:PJ Γ Γc n iter tgt) (t:PTs Γc n ifs) (e:PE Γc n elt) (hO:fv Γ Γc scope):PS Γ n (.Assign [.Name x px] (.ListComp elt [⟨tgt,iter,ifs,0⟩] scope p) q):=
 ⟨λst P=>s6 it.vi it.vt t.vc e.vc (J0E m none) st λa st1=>(λe st P=>P () { st with lo:=upd JDh i (some e) }:EV->VC Unit) a st1 λu st'=>fSt st' λst2=>P .next st2,
  ((ckN Γ j x .local&&(!Γ.comp&&ckS Γ.ln i x))&&(!(JDl λy=>y.1==x&&(y.2== .local||y.2== .cell))&&(px.line==J9T)))&&(it.ck&&(t.ck&&e.ck)),
  λh z z z z C z z z z z z z z H hv=>kN (it.ok (aL (aR h))) (t.ok (aL (aR (aR h)))) (e.ok (aR (aR (aR h)))) hO (pP m) it.hf (cZ.nm (fU (aD (aL (aL h))) (nB (aL (aR (aL (aL h))))) (J05 (aR (aR (aL (aL h))))))) (λ{w A env X} C=>by
  have hb:JFa=.function:=by unfold Env.blockKind;rw[J5h];rfl
  have hk:J34 x=some .local:=JB8 (bd (aD (aL (aL h))))
  show pure (JFa== .function&&J34 x==some .local&&px.line==J9T&& !(JDl λy=>y.1==x&&(y.2== .local||y.2== .cell)))=_
  rw[hb,hk,aR (aR (aL h)),nB (aL (aR (aL h)))];rfl) C H JE0⟩
def PB.nil:PB Γ n []:=⟨_,true,λy=>y6⟩
def PB.con {c:Stmt}{r:List Stmt}(a:PS Γ n c) (b:PB Γ n r):PB Γ n (c::r):=⟨_,Jc&&JAJ,λh=>wZ (Jd (aL h)) (JAq (aR h))⟩
def PB.ded {b:List Stmt}:PB Γ n b:=⟨_,true,λy=>wY⟩
def PJ.of {it tg:Expr}(a:PE Γ n it) (t:PT Γc n tg) (hf:Jl (isK 3 it=false) Jn):PJ Γ Γc n it tg:=⟨_,_,Jc&&t.ck,λh=>tX (Jd (aL h)) (t.ok (aR h)),v5 hf⟩
def PJ.enm (j:Nat) {nm:Str}(b:BF nm n) {q p tp:Pos}{kk:Nat}{args ts:List Expr}(a:PL Γ n args) (t:PT Γc n (.Tuple ts kk tp)) (hv:Jl (b.v=.type "enumerate") Jn):PJ Γ Γc n (.Call (.Name nm q) args [] p) (.Tuple ts kk tp):=
 ⟨_,_,ckN Γ j nm .globalImplicit&&(Jc&&t.ck),λh=>pC (rj b hv (aD h)) (Jd (aL (aR h))) a.pa (t.ok (aR (aR h))),v5 rfl⟩
def PJ.zip (j:Nat) {nm:Str}(b:BF nm n) {q p tp:Pos}{kk:Nat}{args ts:List Expr}(a:PL Γ n args) (t:PT Γc n (.Tuple ts kk tp)) (hv:Jl (b.v=.type "zip") Jn):PJ Γ Γc n (.Call (.Name nm q) args [] p) (.Tuple ts kk tp):=
 ⟨_,_,ckN Γ j nm .globalImplicit&&(Jc&&t.ck),λh=>rm (rj b hv (aD h)) (Jd (aL (aR h))) a.pa (t.ok (aR (aR h))),v5 rfl⟩
end
end
structure PD (Γ:Nm) (n:Nat) (pos:Pos) (keys:List (Option Expr)) (values:List Expr) where
 ps:Env->List (J1M Value×J1M Value)
 ks:List Nat
 vc:VC (List EV)
 ck:Bool
 ok:ck=true->BC Γ n ps ks vc
 shape:∀env,(JBe keys env).zip ((J9x values env).map λv=>do let x <- v;standAt pos;pure x)=(ps env).map λp=>(some p.1,p.2)
 len:∀env,(ps env).length=values.length
section
variable {Γ Γc:Nm}{n:Nat}
theorem bh.ask {f:Value}{p:List EV->VC EV}(h:bh n f p):bh n f (λas st P=>Ask (p as st P)):=by
 intro w A Γ X B AO st T vs args ws s h' t Q E P hl H hv hQ
 exact h B AO hl H JE0 hQ
theorem OpC.ask {op:CmpOp}{p:EV->EV->VC Bool}(h:OpC n op p):OpC n op (λa b st P=>Ask (p a b st P)):=by
 intro w A Γ X B AO st T vs ea eb va vb s h' t Q E P H hv hQ
 exact h B AO H JE0 hQ
noncomputable section
def PD.nil {pos:Pos}:PD Γ n pos [] []:=⟨_,_,_,true,λy=>y5,λy=>rfl,λy=>rfl⟩
def PD.con (k:Nat) {pos:Pos}{x:Str}{kk:Nat}{kp:Pos}{e:Expr}{keys:List (Option Expr)}{values:List Expr}(a:PE Γ n e) (b:PD Γ n pos keys values):PD Γ n pos (some (.Constant (.str x) kk kp)::keys) (e::values):=
 ⟨_,_,_,decide (x=ak k)&&(Jc&&JAJ),λh=>wX (kk:=kk) (kp:=kp) (pos:=pos) (aD h) (Jd (aL (aR h))) (JAq (aR (aR h))),λenv=>JD (JAz _) (b.shape env),λenv=>JD J7C (b.len env)⟩
def PE.dic {pos:Pos}{k:Option Expr}{v:Expr}{keys:List (Option Expr)}{values:List Expr}(a:PD Γ n pos (k::keys) (v::values)):
  PE Γ n (.Dict (k::keys) (v::values) pos):=
 ⟨_,(J8p (v::values).length 15&&(BA J1L a.ks&&(uu a.ks&&J8p a.ks.length 15)))&&Jc,λhh=>(J5e (yJ (Jd (aR hh)) a.shape (λenv h=>by have:=a.len env;rw[h] at this;cases this) (λenv=>by rw[a.len];exact J0G (aL (aL hh))) (aL (aR (aL hh))) (aL (aR (aR (aL hh)))) (aR (aR (aR (aL hh)))))),λy y=>rfl⟩
def PJ.itm {o:Expr}{q p tp:Pos}{kk:Nat}{ts:List Expr}(a:PE Γ n o) (t:PT Γc n (.Tuple ts kk tp))
  (he:Jl (∀env,eval (.Call (.Attribute o "items" q) [] [] p) env=(do
   let ov <- eval o env
   standAt JC8
   let (f,first) <- holding [ov] (getMethod ov "items" (do return (<- importBound o env).getD true))
   J2C p f first (J00 p (Je [] env)) (J4Y p (J2V [] env)))) Jn):PJ Γ Γc n (.Call (.Attribute o "items" q) [] [] p) (.Tuple ts kk tp):=
 ⟨_,_,Jc&&t.ck,λh=>nA (Jd (aL h)) (t.ok (aR h)) (λenv=>do return (<- importBound o env).getD true) he,v5 rfl⟩
def cv:BF "len" n:=⟨.builtin "len",_,0,rfl,by kernel_rfl,by decide,.inr (.inl ⟨_,rfl⟩),dP En⟩
def iv:BF "range" n:=⟨.type "range",_,1,rfl,by kernel_rfl,by decide,.inr (.inr ⟨_,rfl⟩),u5⟩
def xZ:BF "sum" n:=⟨.builtin "sum",_,2,rfl,by kernel_rfl,by decide,.inr (.inl ⟨_,rfl⟩),dP El⟩
def EP:BF "all" n:=⟨.builtin "all",_,3,rfl,by kernel_rfl,by decide,.inr (.inl ⟨_,rfl⟩),dP Es⟩
def dG:BF "bytes" n:=⟨.type "bytes",_,4,rfl,by kernel_rfl,by decide,.inr (.inr ⟨_,rfl⟩),dP zZ⟩
def bBa:BF "bytearray" n:=⟨.type "bytearray",_,5,rfl,by kernel_rfl,by decide,.inr (.inr ⟨_,rfl⟩),CZ⟩
theorem gG {f:Value}:bh n f (λy y y=>False):=by
 intro w A Γ X B AO st T vs args ws s h t Q E P hl H hv hQ
 exact J7a
def DC:BF "enumerate" n:=⟨.type "enumerate",_,6,rfl,by kernel_rfl,by decide,.inr (.inr ⟨_,rfl⟩),gG⟩
def Gc:BF "zip" n:=⟨.type "zip",_,7,rfl,by kernel_rfl,by decide,.inr (.inr ⟨_,rfl⟩),gG⟩
def Bw:BF "tuple" n:=⟨.type "tuple",_,8,rfl,by kernel_rfl,by decide,.inr (.inr ⟨_,rfl⟩),dP zP⟩
def Ge:BF "list" n:=⟨.type "list",_,9,rfl,by kernel_rfl,by decide,.inr (.inr ⟨_,rfl⟩),dP zU⟩
def C9:BF "sorted" n:=⟨.builtin "sorted",_,10,rfl,by kernel_rfl,by decide,.inr (.inl ⟨_,rfl⟩),JEI (dP xk)⟩
def Gf:BF "isinstance" n:=⟨.builtin "isinstance",_,11,rfl,by kernel_rfl,by decide,.inr (.inl ⟨_,rfl⟩),qG Eo⟩
def G1:BF "int" n:=⟨.type "int",_,12,rfl,by kernel_rfl,by decide,.inr (.inr ⟨_,rfl⟩),gG⟩
def GY:BF "str" n:=⟨.type "str",_,13,rfl,by kernel_rfl,by decide,.inr (.inr ⟨_,rfl⟩),gG⟩
def GZ:BF "ord" n:=⟨.builtin "ord",_,14,rfl,by kernel_rfl,by decide,.inr (.inl ⟨_,rfl⟩),dP Em⟩
def G2:BF "chr" n:=⟨.builtin "chr",_,15,rfl,by kernel_rfl,by decide,.inr (.inl ⟨_,rfl⟩),dP Er⟩
def k9:BM "append" n:=⟨"list","list.append",_,J3C,J7K,J7J,kf⟩
def pR:BM "extend" n:=⟨"list","list.extend",_,J3C,JCV,JCU,sT⟩
def GP:BM "get" n:=⟨"dict","dict.get",_,JD8,F.slot_dict_get,F.type_dict_get,JEI Bj⟩
def FL:BM "pop" n:=⟨"dict","dict.pop",_,JD8,F.slot_dict_pop,F.type_dict_pop,JEI xM⟩
def FN:BM "join" n:=⟨"str","str.join",_,F.plainAttrs_str,F.slot_str_join,F.type_str_join,qG Cq⟩
theorem nO:JCw "bytearray":=⟨(az ("bytearray.__getattribute__") (by rw[J16,J0Y];kernel_rfl) (by decide+kernel)),by rw[J16,J0Y];kernel_rfl⟩
def ux:BM "extend" n:=⟨"bytearray","bytearray.extend",_,nO,gh,mG,qG z5⟩
end
end
def jw {α:Type}[BEq α]:List α->Bool
 |[]=>true
 |a::r=> !r.contains a&&jw r
theorem e9 {α:Type}[BEq α] [LawfulBEq α] {l:List α}:jw l=true->JDw:=by
 induction l with
 |nil=>exact λy=>J1B
 |cons a r ih=>
  intro h
  obtain⟨h1,h2⟩:=J07 h
  exact J1c ⟨λz=>by simp [z] at h1,ih h2⟩
def lZ (a b:J1T):Bool:=decide (a=b)
def lookB (nm:List (Str×J1T)) (x:Str) (k:J1T):Bool:=match J8S x with
 |some k'=>lZ k' k
 |none=>false
theorem di {nm:List (Str×J1T)}{x:Str}{k:J1T}(h:lookB nm x k=true):J8S x=some k:=by
 unfold lookB at h
 generalize J8S x=l at h ⊢
 cases l with
 |some k'=>exact JD some (J05 h)
 |none=>cases h
theorem d0 {nm:List (Str×J1T)}{x:Str}{k:J1T}(h:J8S x=some k):(x,k)∈nm:=by
 induction nm with
 |nil=>cases h
 |cons p r ih=>
  obtain⟨y,j⟩:=p
  rw[J4O] at h
  cases q:x==y with
  |true=>rw[q] at h;cases h;rw[eq_of_beq q];exact JB
  |false=>rw[q] at h;exact Jk _ (ih h)
def nmB (Γ:Nm):Bool:=Γ.nm.all (λp=>lookB Γ.nm p.1 p.2&& !(p.1==("__debug__":Str)))&&jw Γ.ln&&jw Γ.kn
theorem z9 {Γ:Nm}(h:nmB Γ=true):NmOk Γ:=by
 obtain⟨h,h3⟩:=J07 h
 obtain⟨h1,h2⟩:=J07 h
 rw[J1p] at h1
 exact⟨λp hp=>di (J07 (h1 p hp)).1,λp hp=>by have:=(J07 (h1 p hp)).2;simpa using this,e9 h2,e9 h3⟩
def F5 (Γ:Nm) (names:List Str) (li ci:List (Option Nat)) (sc:Scope):Bool:=
 nmB Γ&& !Γ.comp&&jw names&&((cellsFrom 0 Γ.nm []).map (·.1)==Γ.cn)&&jw Γ.cn&&io names Γ.ln li&&io names Γ.cn ci&&Γ.ln.all (λx=>lookB Γ.nm x .local)&&Γ.cn.all (λx=>lookB Γ.nm x .cell)&&
  names.all (λx=>lookB Γ.nm x .local||lookB Γ.nm x .cell)&& !sc.isCoroutine&& !sc.isGenerator&&decide (sc.kind=.function)
theorem aw {Γ:Nm}{names:List Str}{li ci:List (Option Nat)}{sc:Scope}(hs:JC5=Γ.nm) (h:F5 Γ names li ci sc=true):aG Γ names li ci sc:=by
 unfold F5 at h
 simp only [J1r] at h
 refine e0_2 h λen0 h13=> ?_
 clear h
 obtain⟨⟨⟨⟨⟨⟨⟨⟨⟨⟨⟨h1,h2⟩,h3⟩,h4⟩,h5⟩,h6⟩,h7⟩,h8⟩,h9⟩,h10⟩,h11⟩,h12⟩:=en0
 rw[J1p] at h8 h9 h10
 exact⟨z9 h1,hs,by simpa using h2,e9 h3,eq_of_beq h4,e9 h5,h6,h7,λx hx=>d0 (di (h8 x hx)),λx hx=>d0 (di (h9 x hx)),
  λx hx=>(JAN (h10 x hx)).imp (λz=>d0 (di z)) λz=>d0 (di z),by simpa using h11,by simpa using h12,J05 h13⟩
def u3 (Γ:Nm) (sc:Scope) (kn:List Str):Nm:=⟨lL Γ.nm JC5,true,Γ.ln,Γ.cn,kn,false⟩
def Bh (Γ:Nm) (sc:Scope) (kn:List Str):Bool:=
 !Γ.comp&&nmB (u3 Γ sc kn)&&decide (sc.kind=.function)&&sc.names.all (λx=> !lZ x.2 .cell&&(!lZ x.2 .local||lookB JC5 x.1 .local)&&(!lZ x.2 .free||(Γ.cn.contains x.1&&lookB Γ.nm x.1 .cell)))&&
  (lL Γ.nm JC5).all (λx=> !lZ x.2 .cell||sc.names.any λy=>y.1==x.1&&lZ y.2 .free)
theorem Bg {Γ:Nm}{sc:Scope}{kn:List Str}(h:Bh Γ sc kn=true):fv Γ (u3 Γ sc kn) sc:=by
 unfold Bh at h
 simp only [J1r] at h
 refine e0_2 h λen0 h5=> ?_
 clear h
 refine e0_2 en0 λen0 h4=> ?_
 refine e0_2 en0 λen0 h3=> ?_
 obtain⟨h1,h2⟩:=en0
 rw[J1p] at h4 h5
 have kB:∀{a b:J1T},a=b->lZ a b=true:=λh=>Jq h
 refine⟨by simpa using h1,rfl,rfl,rfl,rfl,rfl,z9 h2,J05 h3,λx hx e=> ?_,λx hx e=> ?_,λx hx=> ?_,λx hx=> ?_⟩
 ·have:=h4 x hx
  rw[kB e] at this;simp at this
 ·have:=h4 x hx
  rw[kB e] at this
  simp only [J1r,JAH,J7N] at this
  exact di this.1.2
 ·have:=h4 (x,.free) hx
  rw[kB (a:=(x,J1R).2) rfl] at this
  simp only [J1r,JAH,J7N] at this
  exact⟨by simpa using this.2.1,d0 (di this.2.2)⟩
 ·have:=h5 (x,.cell) hx
  rw[kB (a:=(x,J1S).2) rfl] at this
  simp only [JAH,J7N,List.any_eq_true,J1r] at this
  refine e1_3 this λen1 hy e1 e2=> ?_
  clear this
  obtain⟨y,k⟩:=en1
  have e1:=eq_of_beq e1
  have e2:k=.free:=J05 e2
  clear hx
  subst e1;subst e2;exact hy
theorem cw {b:Bool}{p q:Prop}(h:b=true) (hp:p):ifB b p q:=by subst h;exact hp
theorem bu {b:Bool}{p q:Prop}(h:b=false) (hq:q):ifB b p q:=by subst h;exact hq
theorem xj {n:Nat}:OpC n .NotIn (λa b st P=>Ask (Cn false a b st P)):=OpC.ask xl
theorem Ek {n:Nat}:OpC n .In (λa b st P=>Ask (Fy a b st P)):=OpC.ask Ep
theorem aV {Γ Γc:Nm}{sc:Scope}(e:Γc=u3 Γ sc Γc.kn) (h:Bh Γ sc Γc.kn=true):fv Γ Γc sc:=by
 rw[e];exact Bg h
theorem aJ:∀(fz:FzP) (ρ:List Addr),EVs fz ρ [] []:=λy y=>.nil
theorem ar {n:Nat}{a:Addr}{k:Nat}{names:List Str}{dfl:List Value}{dflE:List EV}{qual:Str}{body:List Stmt}{scope:Scope}{Γf:Nm}{li ci:List (Option Nat)}{spec:jb}
  (hK:∀w K,KOk w K->nh K a k names dfl qual body scope) (hD:aG Γf names li ci scope) (hdf:∀fz ρ,EVs fz ρ dflE dfl) (d:PB Γf n body)
  (hs:∀args sl P,J1J=k->spec args sl P->uM J4c λn=>d.vc { lo:=hZ (args++dflE) li,ce:=hZ (args++dflE) ci,co:=[],sl:=sl } (nM n P)) (htop:Jl (Γf.top=false) Jn) (hck:d.ck=true:=by kernel_rfl):ac (n+1) a k spec:=CW hK hD hdf (d.ok hck) (λas sl P h z=>eD.mp (hs as sl P h z)) htop
def leV:List UInt8->Int:=lR 0 λc y r=>(J28:Int)+256*r
def leB:Nat->Int->List UInt8
 |0,_=>[]
 |n+1,k=>(k.fmod 256).toNat.toUInt8::leB n (k.fdiv 256)
theorem bM (n:Nat):∀k:Int,(leB n k).length=n:=by
 induction n with
 |zero=>exact λy=>rfl
 |succ n ih=>exact λk=>JD J7C (ih _)
theorem bP (n:Nat):∀k:Int,0<=k->k<256 ^ n->leV (leB n k)=k:=by
 induction n with
 |zero=>exact λk h0 h1=>Int.le_antisymm h0 (Int.lt_add_one_iff.mp h1)
 |succ n ih=>
  intro k h0 h1
  have e2:JAD k 256=k / 256:=J0b _ (by decide)
  have h2:k / 256<256 ^ n:=JB5 (by decide) (by rw[JB2] at h1;exact h1)
  show (((k.fmod 256).toNat.toUInt8.toNat:Int))+256*leV (leB n (k.fdiv 256))=k
  have:(k % 256).toNat<256:=by exact z03 0x1000100100110001003f8090721003f01d2 fZ fT
  rw[(J4v _ (by decide)),e2,ih (k / 256) (J4t h0 (by decide)) h2,show (k % 256).toNat.toUInt8.toNat=(k % 256).toNat from JDN this]
  exact z03 0x1000100010001001001000110100010211003fb0e920721003f01d2 fZ fT
theorem fe (b:List UInt8):0<=leV b:=by
 induction b with
 |nil=>exact J4s 0
 |cons c r ih=>exact J9L (J1G _) (J1C (by decide) ih)
theorem Al (b:List UInt8):leV b<256 ^ J2:=by
 induction b with
 |nil=>decide
 |cons c r ih=>
  have hc:J28<256:=c.toNat_lt
  show (J28:Int)+256*leV r<256 ^ (r.length+1)
  rw[JB2];exact z12 0x111003f1003f2c11003fb0e911003f8092112 ih hc
def FK (x:List PV):PV:=match x with
 |[.int k,.int o]=>.int (o*2 ^ (8*k).toNat)
 |_=>.none
def lX (k:Nat) (l:List UInt8):List Int:=lR (β:=Nat->List Int) (λy=>[]) (λc y f k=>(J28:Int)*2 ^ (8*(k:Int)).toNat::f (k+1)) l k
theorem uy (k:Nat) (b:List UInt8):(lX k b).sum=2 ^ (8*k)*leV b:=by
 induction b generalizing k with
 |nil=>exact (JB3 _).symm
 |cons c r ih=>
  show ((J28:Int)*2 ^ (8*(k:Int)).toNat::lX (k+1) r).sum=_
  rw[J5S,ih (k+1)]
  show _=2 ^ (8*k)*((J28:Int)+256*leV r)
  rw[show 8*(k+1)=8*k+8 by exact z10 0x118808b918098ba0,Int.pow_add,JHR,J7r (J28:Int),JFq]
  rfl
theorem AX (b:List UInt8):(eO (J52 λc=>.int J28)).map FK=(lX 0 b).map .int:=by
 have key:∀(b:List UInt8) (k i:Nat),(lX k b)[i]? =(b[i]?).map λc=>(J28:Int)*2 ^ (8*((k+i:Nat):Int)).toNat:=by
  intro b
  induction b with
  |nil=>exact λk i=>rfl
  |cons c r ih=>
   intro k i
   cases i with
   |zero=>rfl
   |succ i=>
    show (lX (k+1) r)[i]? =_
    rw[ih,J5T,show k+1+i=k+(i+1) by omega]
 refine J3B λi=> ?_
 rw[JR,JR,key,J4z]
 cases h:b[i]? with
 |none=>
  have:(eO (J52 λc=>J3G J28))[i]? =none:=J0H (by rw[dS,J6];exact J8E h)
  rw[this];rfl
 |some c=>
  have hi:=(J04 h).1
  cases h2:(eO (J52 λc=>J3G J28))[i]? with
  |none=>have:=J8E h2;rw[dS,J6] at this;omega
  |some x=>
   refine e1_2 (eN h2) λp h3 er0=> ?_
   refine Jm▸?_
   rw[JR,h] at h3
   clear er0
   cases h3
   rfl
theorem dz {α:Type}(cs:α->List (Option EV)) (a0:α) {vi:VC (List (List PV)×(St->Prop))}{vt:List PV->VC Unit}{vtest:VC Bool}{ve:VC EV}{P:EV->St->Prop}{s0:St}(items:List (List PV)) (keep:St->Prop) {lo ce co:List (Option EV)}{sl:List SO}(g:List PV->Option PV)
  (hvi:∀P',P' (items,keep) ⟨lo,ce,co,sl⟩->vi s0 P') (hl:J0Q<=bc) (hk:∀a,keep ⟨lo,ce,cs a,sl⟩)
  (turn:∀x∈items,∀a,∀(R:PV->St->Prop) (S:St->Prop),(∀p a,g x=some p->R p ⟨lo,ce,cs a,sl⟩)->(∀a,g x=none->S ⟨lo,ce,cs a,sl⟩)->
   vt x ⟨lo,ce,cs a,sl⟩ λy st3=>vtest st3 λb st4=>ifB b (ve st4 λe st5=>AA e λp=>R p st5) (S st4))
  (fin:P (.pv (.lst (items.filterMap g))) ⟨lo,ce,[],sl⟩):s6 vi vt vtest ve (cs a0) s0 P:=by
 refine⟨hvi _ ⟨hl,λk acc st=>acc=(JCg k).filterMap g/\∃a,st=⟨lo,ce,cs a,sl⟩,⟨rfl,a0,rfl⟩,?_,?_⟩⟩
 ·rintro k acc x _ hx ⟨rfl,a,rfl⟩
  have tk:JCg (k+1)=JCg k++[x]:=by rw[J0j,hx];rfl
  refine⟨hk a,turn x (J01 hx) a _ _ (λp a hp=>(uE ?_ a rfl)) (λa hn=>(uE ?_ a rfl))⟩
  ·rw[tk,JAx];congr 1;simp [hp]
  ·rw[tk,JAx];simp [hn]
 ·rintro acc _ ⟨rfl,a,rfl⟩
  refine (J0a).symm▸?_
  exact⟨hk a,fin⟩
theorem DB {α:Type}(cs:α->List (Option EV)) (a0:α) {vi:VC (List (List PV)×(St->Prop))}{vt:List PV->VC Unit}{vtest:VC Bool}{ve:VC EV}{P:EV->St->Prop}{s0:St}(items:List (List PV)) (keep:St->Prop) {lo ce co:List (Option EV)}(slf:Nat->List SO) (out:List PV)
  (hvi:∀P',P' (items,keep) ⟨lo,ce,co,slf 0⟩->vi s0 P') (hl:J0Q<=bc) (ho:out.length=J0Q) (hk:∀a k,keep ⟨lo,ce,cs a,slf k⟩)
  (turn:∀k x p,items[k]? =some x->out[k]? =some p->∀a,∀(R:PV->St->Prop) (S:St->Prop),(∀a,R p ⟨lo,ce,cs a,slf (k+1)⟩)->
   vt x ⟨lo,ce,cs a,slf k⟩ λy st3=>vtest st3 λb st4=>ifB b (ve st4 λe st5=>AA e λp=>R p st5) (S st4))
  (fin:P (.pv (.lst out)) ⟨lo,ce,[],slf J0Q⟩):s6 vi vt vtest ve (cs a0) s0 P:=by
 refine⟨hvi _ ⟨hl,λk acc st=>acc=out.take k/\∃a,st=⟨lo,ce,cs a,slf k⟩,⟨rfl,a0,rfl⟩,?_,?_⟩⟩
 ·rintro k acc x _ hx ⟨rfl,a,rfl⟩
  have hlt:k<out.length:=by rw[ho];exact (J04 hx).1
  have hp:=Jy hlt
  exact⟨hk a k,turn k x _ hx hp a _ _ λa=>⟨by rw[J0j,hp];rfl,a,rfl⟩⟩
 ·rintro acc _ ⟨rfl,a,rfl⟩
  refine (ho)▸?_
  refine (J0a).symm▸?_
  refine (ho).symm▸?_
  exact⟨hk a _,fin⟩
theorem l9 {vi:VC (List (List PV)×(St->Prop))}{vt:List PV->VC Unit}{vb:VC Fl}{P:Fl->St->Prop}{s0:St}(x:List PV) (keep:St->Prop) (s1 A:St) (hvi:∀P',P' ([x],keep) s1->vi s0 P') (hk:keep s1) (turn:∀C:St->Prop,C A->vt x s1 λz st3=>vb st3 (vW C P)) (hA:keep A) (fin:P .next A):ER vi vt vb s0 P:=by
 refine⟨hvi _ (i_eaa (λk st=>(k=0/\st=s1)∨(k=1/\st=A)) (.inl ⟨rfl,rfl⟩) ?_ ?_)⟩
 ·clear fin hA hvi
  rintro k y st2 hx (⟨rfl,rfl⟩|⟨rfl,rfl⟩) K hK
  ·cases hx;exact⟨hk,turn K (hK _ (.inr ⟨rfl,rfl⟩))⟩
  ·cases hx
 ·clear hvi turn
  rintro st2 (⟨h,_⟩|⟨_,rfl⟩)
  ·cases h
  ·exact⟨hA,fin⟩
abbrev C2:=Option EV×Option EV
abbrev C3:=Option EV×Option EV×Option EV
def c2:C2->List (Option EV)
 |(a,b)=>[a,b]
def c3:C3->List (Option EV)
 |(a,b,c)=>[a,b,c]
theorem cE {α β:Type}(f:α->β) (l:List α):J8U (λx=>some (f x))=JE f:=congrFun List.filterMap_eq_map' l
theorem D2 (m:Nat):rngN 0 m 1=m:=by
 delta rngN J0X
 simp
 try omega
theorem zk (m:Nat):cI 0 m 1=(JZ m).map λi:Nat=>.int i:=by
 unfold cI
 rw[D2]
 refine J0o λi y=> ?_
 simp
theorem rh {m:Nat}(h:m<=1000000):dY 0 m 1=true:=Jq (by exact z10 0x1010111010103b9aca008f81801808143b9aca008f80e040e3b9aca008f8d043b9aca008f80804083b9aca008f8d04f42405f8081 h)
theorem oO {m:Nat}{st:St}{P':List (List PV)×(St->Prop)->St->Prop}(h:m<=1000000) (hp:P' (bt ((JZ m).map λi:Nat=>.int i),λst'=>aS (.pv (.rng 0 m 1)) st'=some ((JZ m).map λi:Nat=>.int i)) st):vN (λst P=>P (.pv (.rng 0 m 1)) st) st P':=by
 have e:∀st,aS (.pv (.rng 0 m 1)) st=some ((JZ m).map λi:Nat=>.int i):=λst=>(JC (rh h)).trans (JD some (zk m))
 show aj (aS (.pv (.rng 0 m 1)) st) λps=>P' (bt ps,λst'=>aS (.pv (.rng 0 m 1)) st'=some ps) st
 rw[e];exact hp
theorem sj {m:Nat}(h:m<=1000000) (st:St):aS (.pv (.rng 0 m 1)) st=some ((JZ m).map λi:Nat=>.int i):=(JC (rh h)).trans (JD some (zk m))
theorem au {α:Type}(f:α->PV) (l:List α):bt (JE f)=JE λa=>[f a]:=by unfold bt;rw[Js];rfl
def rV (n:Int) (i:Nat):Int:=J55 (n.fdiv (2 ^ (8*(i:Int)).toNat)) 255
theorem vU {n:Int}(h:0<=n) (i:Nat):rV n i=(n / 256 ^ i) % 256:=by
 unfold rV
 have e:(2:Int) ^ (8*(i:Int)).toNat=256 ^ i:=by
  rw[show (8*(i:Int)).toNat=8*i from rfl,Int.pow_mul];rfl
 have hp:(0:Int)<256 ^ i:=Int.pow_pos (by decide)
 refine (e).symm▸?_
 refine (J0b _ (J7s hp)).symm▸?_
 have h2:0<=n / 256 ^ i:=J4t h (J7s hp)
 unfold J55
 rw[Jq h2]
 show ((((n / 256 ^ i).toNat &&& (2 ^ 8 - 1):Nat)):Int)=_
 rw[J7q]
 exact (JDQ ..).trans (JD (λz:Int=>z % 256) (J2X h2))
theorem ur {n:Int}(h:0<=n):∀m,((JZ m).map (rV n)).map (λk=>J3k)=leB m n:=by
 have key:∀(m:Nat) (n:Int),0<=n->((JZ m).map λi=>(n / 256 ^ i) % 256).map (λk=>J3k)=leB m n:=by
  intro m
  induction m with
  |zero=>intro n _;rfl
  |succ m ih=>
   intro n h
   rw[List.range_succ_eq_map]
   show _::_=(n.fmod 256).toNat.toUInt8::leB m (n.fdiv 256)
   rw[(J4v _ (by decide)),(J0b _ (by decide)),<- ih (n / 256) (by exact z03 0x1003f10101008011003f20d10802 h fZ)]
   congr 1
   ·simp
   ·rw[Js,Js,Js]
    refine J0o λi y=> ?_
    show ((n / 256 ^ (i+1)) % 256).toNat.toUInt8=((n / 256 / 256 ^ i) % 256).toNat.toUInt8
    rw[Int.ediv_ediv_of_nonneg (by decide),JB2,J7r]
 intro m
 rw[<- key m n h]
 congr 1
 exact J0o λi y=>vU h i
theorem Cv {n:Int}(h:0<=n) (m:Nat):vq ((JZ m).map (rV n))=true:=by
 unfold vq
 rw[J1p]
 intro k hk
 refine e1_2 (Ja hk) λi y er0=> ?_
 clear hk
 obtain rfl:=er0
 rw[vU h]
 exact Jq (by exact z03 0x11000101001003f8010080421003f01d1 fZ)
def okT (l:List Nat):Prop:=∀c∈l,32<=c/\c<127
theorem oW {l:List Nat}(h:okT l):(l.toArray.all (·<128))=true:=by
 rw[JDO,J1p]
 intro c hc
 exact Jq (by have:=h c hc;omega)
theorem oN {l:List Nat}{st:St}{P':List (List PV)×(St->Prop)->St->Prop}(h:okT l) (hp:P' (bt (JE λc=>.str ⟨#[c]⟩),λst'=>aS (.pv (.str ⟨J4E⟩)) st'=some (JE λc=>.str ⟨#[c]⟩)) st):vN (λst P=>P (.pv (.str ⟨J4E⟩)) st) st P':=by
 have e:∀st,aS (.pv (.str ⟨J4E⟩)) st=some (JE λc=>.str ⟨#[c]⟩):=λst=>JC (oW h)
 show aj (aS (.pv (.str ⟨J4E⟩)) st) λps=>P' (bt ps,λst'=>aS (.pv (.str ⟨J4E⟩)) st'=some ps) st
 rw[e];exact hp
theorem si {l:List Nat}(h:okT l) (st:St):aS (.pv (.str ⟨J4E⟩)) st=some (JE λc=>.str ⟨#[c]⟩):=JC (oW h)
theorem ft {α:Type}(l:List α):gH (JE λy=>.bool true)=some (JE λy=>true):=jP (f:=uh) (λy=>rfl) l
theorem mJ {α:Type}(l:List α):(JE λy=>true).all id=true:=by
 rw[J1p];intro b hb;obtain⟨_,_,rfl⟩:=Ja hb;rfl
theorem tK (l:List Str):pp (JE .str)=some l:=(jP (f:=zp) (g:=J9h) (k:=id) (λy=>rfl) l).trans (JD some (JBs _))
theorem Ax (l:List Nat):Txt.join (J11 "") (JE λc=>(⟨#[c]⟩:Str))=⟨J4E⟩:=by
 show Builtin.Str.glued (J11 "") _=_
 rw[StrLaws.glued_eq_join]
 have e0:J11 ""=⟨#[]⟩:=by decide
 rw[e0]
 induction l with
 |nil=>rfl
 |cons a r ih=>
  cases r with
  |nil=>rfl
  |cons b r=>
   show (⟨#[a]⟩:Str)++⟨#[]⟩++Str.join ⟨#[]⟩ ((b::r).map λc=>(⟨#[c]⟩:Str))=_
   rw[ih]
   show (⟨#[a]++ #[]++(b::r).toArray⟩:Str)=_
   simp
def okB (b:List UInt8):Prop:=∀c∈b,32<=J28/\J28<127
def dZ (b:List UInt8):List SO:=[.inst 130 [(0,.loc 1)],.ba b]
theorem yn {α:Type}(l:List α):(JE λy=>1).sum=JV:=by
 induction l with
 |nil=>rfl
 |cons a r ih=>rw[J0t,J5S,ih,J0w,J4I]
def tf:Nm:=⟨[("octets",.local),("size",.local),("len",.globalImplicit),("Misused",.globalImplicit),("bytes",.globalImplicit)],false,["octets","size"],[],[],false⟩
theorem BL:aG tf ["octets","size"] [some 0,some 1] [] (ao (aB 12)):=aw rfl (by rfl)
def Be:PB tf 0 (ay (aB 12)):=
 (.con (.iff (.cmp iN (.bf 2 cv (.con (.loc 0 0) .nil)) (.loc 1 1)) .ded .nil)
  (.con (.ret (.bin aH (.bf 4 dG (.con (.loc 0 0) .nil)) (.bf 4 dG (.con (.bin cz (.loc 1 1) (.bf 2 cv (.con (.loc 0 0) .nil))) .nil))))
  .nil))
inductive zd (as:List EV) (sl:List SO) (P:EV->List SO->Prop):Prop
 |mk (b k:_) (h0:as=[.pv (.bytes b),.pv (.int k)]) (h1:sl=[]) (h2:((J2:Int)<=k/\k<=65536)) (h3:P (.pv (.bytes (b++J0E (k - J2).toNat 0))) [])
theorem AR:ac 1 191 2 zd:=ar (kFn 16 rfl) BL aJ Be (by
 rintro _ _ P _ ⟨b,k,rfl,rfl,⟨h1,h2⟩,hP⟩
 exact⟨by exact z11 0x111100005f808100005f81010e02 h1 h2,bu (J0K (by exact z11 0x110e11310e01 h1)) (ax (by exact z11 0x111100005f808100005f81010e02 h1 h2) ⟨by exact z11 0x110e1a08010e01 h1,by exact z11 0x11100005f80e1a0100005f8101 h2⟩ (by simp [bc];exact z21 0x100110011010010001000100110100110100005f81098021b27100005f82020e04 h1 h2 fT fS) hP)⟩)
def kr:Nm:=⟨[("octets",.local),("sum",.globalImplicit),("enumerate",.globalImplicit)],false,["octets"],[],[],false⟩
def mW:Nm:=⟨[(".0",.local),("place",.local),("octet",.local)],true,["octets"],[],[".0","place","octet"],false⟩
theorem tj:aG kr ["octets"] [some 0] [] (ao (aB 6)):=aw rfl (by rfl)
def sE:PB kr 0 (ay (aB 6)):=
 (.con (.ret (.bf 1 xZ (.con (.com (Γc:=mW) 3 (.enm 2 DC (.con (.loc 0 0) .nil) (.tup (.con (.clo 1 1) (.con (.clo 2 2) .nil)))) .nil (.bin Ei (.clo 2 2) (.bin dE .int (.clo 1 1))) (aV rfl (by rfl))) .nil)))
  .nil)
inductive rz (as:List EV) (sl:List SO) (P:EV->List SO->Prop):Prop
 |mk (b:_) (h0:as=[.pv (.bytes b)]) (h1:sl=[]) (h2:J2<=1000) (h3:P (.pv (.int (leV b))) [])
theorem j8:ac 1 70 1 rz:=ar (kFn 1 rfl) tj aJ sE (by
 rintro _ _ P _ ⟨b,rfl,rfl,h1,hP⟩
 apply dz c3 (none,none,none) (g:=λx=>some (FK x))
 case hvi=>exact λP' h=>h
 case hl=>rw[dS,J6];exact JJ h1 (by decide)
 case hk=>exact λy=>trivial
 case turn=>
  rintro x hx ⟨a1,a2,a3⟩ R S hR _
  refine e1_1 (J15 hx) λk hk=> ?_
  refine e1_2 (eN hk) λp h2 er0=> ?_
  clear hk hx
  obtain rfl:=er0
  replace h2:=(JR)▸h2
  refine e1_2 (Jw h2) λc h3 er1=> ?_
  have hk':=(J04 h3).1
  clear h2
  obtain rfl:=er1
  have:=c.toNat_lt
  exact⟨rfl,(i_aa (by decide) (i_aa (by omega) (by exact z20 0x188f42405f80e8b01093e83f8182 h1 hk') (by omega)) (hR _ (_,_,_) rfl))⟩
 case fin=>
  rw[cE,AX]
  show aj (cA _) _
  rw[bN]
  show P _ _
  rw[uy,Nat.mul_zero,Int.pow_zero,J5V];exact hP)
def ko:Nm:=⟨[("number",.cell),("size",.local),("Misused",.globalImplicit),("bytes",.globalImplicit),("range",.globalImplicit)],false,["size"],["number"],[],false⟩
def mV:Nm:=⟨[(".0",.local),("place",.local),("number",.cell)],true,["size"],["number"],[".0","place"],false⟩
theorem ti:aG ko ["number","size"] [some 1] [some 0] (ao (aB 7)):=aw rfl (by rfl)
def sD:PB ko 0 (ay (aB 7)):=
 (.con (.iff (.nt (.ch2 lT iM .int (.cel 0 0) (.bin Ej .int (.loc 1 0)))) .ded .nil)
  (.con (.ret (.bf 3 dG (.con (.com (Γc:=mV) 2 (.of (.bf 4 iv (.con (.loc 1 0) .nil)) (.clo 1 1)) .nil (.bin lU (.bin Eh (.cel 2 0) (.bin dE .int (.clo 1 1))) .int) (aV rfl (by rfl))) .nil)))
  .nil))
inductive ry (as:List EV) (sl:List SO) (P:EV->List SO->Prop):Prop
 |mk (k:Int) (m:Nat) (h0:as=[.pv (.int k),.pv (.int m)]) (h1:sl=[]) (h2:(0<=k/\k<256 ^ m/\m<=16)) (h3:P (.pv (.bytes (leB m k))) [])
theorem sr:ac 1 75 2 ry:=ar (kFn 2 rfl) ti aJ sD (by
 rintro _ _ P _ ⟨k,m,rfl,rfl,⟨h1,h2,h3⟩,hP⟩
 refine cw (Jq h1) ⟨(i_aa (by omega) (by omega) (by decide)),bu (by rw[J0l,Jq h2];rfl) ?_⟩
 apply dz c2 (none,none) (g:=λx=>some (match x with |[.int i]=>.int (rV k J6f)|_=>.none))
 case hvi=>exact λP' h=>oO (by omega) h
 case hl=>rw[au,J6,J0I];exact JJ h3 (by decide)
 case hk=>exact λy=>sj (by omega) _
 case turn=>
  rintro x hx ⟨a1,a2⟩ R S hR _
  rw[au] at hx
  refine e1_2 (Ja hx) λi y er0=> ?_
  clear hx
  obtain rfl:=er0
  exact (i_aa (by decide) (by omega) (hR _ (_,_) rfl))
 case fin=>
  rw[cE,au,Js]
  show aj (cA ((JZ m).map λi:Nat=>.int (rV k (JB1 i)))) _
  refine (show ((JZ m).map λi:Nat=>J3G (rV k (JB1 i)))=((JZ m).map (rV k)).map .int by rw[Js];rfl).symm▸?_
  refine (bN).symm▸?_
  refine⟨⟨Cv h1 m,by simp;omega⟩,?_⟩
  rw[ur h1];exact hP)
def gY:Nm:=⟨[("text",.local),("points",.local),("all",.globalImplicit),("Misused",.globalImplicit),("bytes",.globalImplicit)],false,["text","points"],[],[],false⟩
def jT:Nm:=⟨[(".0",.local),("sign",.local),("ord",.globalImplicit)],true,["text","points"],[],[".0","sign"],false⟩
def jS:Nm:=⟨[(".0",.local),("point",.local)],true,["text","points"],[],[".0","point"],false⟩
theorem oA:aG gY ["text"] [some 0,none] [] (ao (aB 8)):=aw rfl (by rfl)
def n5:PB gY 0 (ay (aB 8)):=
 (.con (.asC (Γc:=jT) 1 1 2 (.of (.loc 0 0) (.clo 1 1)) .nil (.bf 2 GZ (.con (.clo 1 1) .nil)) (aV rfl (by rfl)))
  (.con (.iff (.nt (.tru (.bf 2 EP (.con (.com (Γc:=jS) 2 (.of (.loc 1 1) (.clo 1 1)) .nil (.ch2 lT iM .int (.clo 1 1) .int) (aV rfl (by rfl))) .nil)))) .ded .nil)
  (.con (.ret (.bf 4 dG (.con (.loc 1 1) .nil)))
  .nil)))
inductive nC (as:List EV) (sl:List SO) (P:EV->List SO->Prop):Prop
 |mk (l:_) (h0:as=[.pv (.str ⟨J4E⟩)]) (h1:sl=[]) (h2:(okT l/\JV<=1000)) (h3:P (.pv (.bytes (JE λc=>J5z))) [])
theorem nU:ac 1 80 1 nC:=ar (kFn 3 rfl) oA aJ n5 (by
 rintro _ _ P _ ⟨l,rfl,rfl,⟨h1,h2⟩,hP⟩
 apply dz c2 (none,none) (g:=λx=>some (match x with |[.str s]=>.int (s.cps.getD 0 0:Nat)|_=>.none))
 case hvi=>exact λP' h=>oN h1 h
 case hl=>rw[au,J6];exact JJ h2 (by decide)
 case hk=>exact λy=>si h1 _
 case turn=>
  rintro x hx ⟨a1,a2⟩ R S hR _
  rw[au] at hx
  refine e1_2 (Ja hx) λi y er0=> ?_
  clear hx
  obtain rfl:=er0
  exact⟨rfl,hR _ (_,_) rfl⟩
 case fin=>
  rw[cE,au,Js,show JE ((λx=>(match x with |[.str s]=>.int (s.cps.getD 0 0:Nat)|_=>.none:PV)) ∘ λa=>[J9h ⟨#[a]⟩])=(JE λc:Nat=>(c:Int)).map .int by rw[Js];rfl]
  apply dz c2 (none,none) (g:=λx=>some (.bool true))
  case hvi=>exact λP' h=>h
  case hl=>simp [bt];exact JJ h2 (by decide)
  case hk=>exact λy=>rfl
  case turn=>
   rintro x hx ⟨a1,a2⟩ R S hR _
   rw[au,Js] at hx
   refine e1_2 (Ja hx) λi hi e=> ?_
   clear a hx
   obtain rfl:x=[.int (i:Int)]:=J5x
   have:=h1 i hi
   refine (cw (Jq (by exact z10 0x110e202f800202f881 this.1)) ?_)
   show R (.bool (decide ((i:Int)<127))) _
   refine (Jq (by exact z10 0x117f2f80e17f2f8091 this.2:(i:Int)<127)).symm▸?_
   exact hR _ (_,_) rfl
  case fin=>
   rw[cE]
   show aj (gH _) _
   rw[ft]
   refine bu (by rw[mJ];rfl) ?_
   show aj (cA _) _
   rw[bN]
   refine⟨⟨?_,by simp;omega⟩,?_⟩
   ·unfold vq
    rw[J1p]
    intro c hc
    refine e1_2 (Ja hc) λi hi er1=> ?_
    clear a hc
    obtain rfl:=er1
    have:=h1 i hi
    exact Jq (by exact z10 0x11101003f80e10e08047f2f8091 this.2)
   ·show P (.pv (.bytes _)) _
    rw[Js];exact hP)
def gZ:Nm:=⟨[("octets",.local),("all",.globalImplicit),("Corrupt",.globalImplicit)],false,["octets"],[],[],false⟩
def jV:Nm:=⟨[(".0",.local),("octet",.local)],true,["octets"],[],[".0","octet"],false⟩
def jU:Nm:=⟨[(".0",.local),("octet",.local),("chr",.globalImplicit)],true,["octets"],[],[".0","octet"],false⟩
theorem oB:aG gZ ["octets"] [some 0] [] (ao (aB 9)):=aw rfl (by rfl)
def n6:PB gZ 0 (ay (aB 9)):=
 (.con (.iff (.nt (.tru (.bf 1 EP (.con (.com (Γc:=jV) 2 (.of (.loc 0 0) (.clo 1 1)) .nil (.ch2 lT iM .int (.clo 1 1) .int) (aV rfl (by rfl))) .nil)))) .ded .nil)
  (.con (.ret (.bm FN .str (.con (.com (Γc:=jU) 2 (.of (.loc 0 0) (.clo 1 1)) .nil (.bf 2 G2 (.con (.clo 1 1) .nil)) (aV rfl (by rfl))) .nil)))
  .nil))
inductive nD (as:List EV) (sl:List SO) (P:EV->List SO->Prop):Prop
 |mk (b:_) (h0:as=[.pv (.bytes b)]) (h1:sl=[]) (h2:(okB b/\J2<=1000)) (h3:P (.pv (.str ⟨(J52 (·.toNat)).toArray⟩)) [])
theorem nV:ac 1 85 1 nD:=ar (kFn 4 rfl) oB aJ n6 (by
 rintro _ _ P _ ⟨b,rfl,rfl,⟨h1,h2⟩,hP⟩
 apply dz c2 (none,none) (g:=λx=>some (.bool true))
 case hvi=>exact λP' h=>h
 case hl=>rw[au,J6];exact JJ h2 (by decide)
 case hk=>exact λy=>rfl
 case turn=>
  rintro x hx ⟨a1,a2⟩ R S hR _
  rw[au] at hx
  refine e1_2 (Ja hx) λi hi e=> ?_
  obtain rfl:x=[.int (J6f:Int)]:=J5x
  have:=h1 i hi
  refine (cw (Jq (by exact z10 0x110e202f800202f881 this.1)) ?_)
  show R (.bool (decide ((J6f:Int)<127))) _
  refine (Jq (by exact z10 0x117f2f80e17f2f8091 this.2:(J6f:Int)<127)).symm▸?_
  exact hR _ (_,_) rfl
 case fin=>
  rw[cE,au,Js]
  show aj (gH (J52 λy=>.bool true)) _
  rw[ft]
  refine bu (by rw[mJ];rfl) ⟨rfl,?_⟩
  apply dz c2 (none,none) (g:=λx=>some (match x with |[.int i]=>.str ⟨#[J6f]⟩|_=>.none))
  case hvi=>exact λP' h=>h
  case hl=>rw[au,J6];exact JJ h2 (by decide)
  case hk=>exact λy=>rfl
  case turn=>
   rintro x hx ⟨a1,a2⟩ R S hR _
   rw[au] at hx
   refine e1_2 (Ja hx) λi hi e=> ?_
   obtain rfl:x=[.int (J6f:Int)]:=J5x
   have:=h1 i hi
   exact⟨⟨by omega,by exact z10 0x1110ffff6f80e07f2f8091 this.2⟩,hR _ (_,_) rfl⟩
  case fin=>
   rw[cE,au,Js]
   show aj (pp (J52 λc:UInt8=>.str ⟨#[J28]⟩)) _
   rw[show (J52 λc:UInt8=>J9h ⟨#[J28]⟩)=((J52 (·.toNat)).map λc=>(⟨#[c]⟩:Str)).map .str by rw[Js,Js];rfl,tK]
   refine⟨⟨by decide,?_⟩,?_⟩
   ·rw[Js]
    show (J7E (λy=>1) _).sum+_<=_
    rw[yn];simp;exact z10 0x12100005f800983e83f8081 h2
   ·rw[Ax];exact hP)
def kz:Nm:=⟨[("self",.local),("bytearray",.globalImplicit)],false,["self"],[],[],false⟩
theorem tv:aG kz ["self"] [some 0] [] (ao (mS 10 0)):=aw rfl (by rfl)
def sL:PB kz 0 (ay (mS 10 0)):=
 (.con (.asg (.att 0 0 (.loc 0 0)) (.bf 1 bBa .nil))
  .nil)
def rE:jb:=λas sl P=>as=[.loc 0]/\sl=[.inst 130 []]/\P (.pv .none) (dZ [])
theorem f7:ac 1 99 1 rE:=ar (kFn 5 rfl) tv aJ sL (by
 intro _ _ P _ hq9
 refine e0_3 hq9 λer0 er1 hP=> ?_
 clear hq9
 obtain rfl:=er0
 obtain rfl:=er1
 exact⟨rfl,rfl,hP⟩)
def nc:Nm:=⟨[("self",.local),("octets",.local)],false,["self","octets"],[],[],false⟩
theorem vF:aG nc ["self","octets"] [some 0,some 1] [] (ao (mS 10 2)):=aw rfl (by rfl)
def uY:PB nc 0 (ay (mS 10 2)):=
 (.con (.exp (.bm ux (.att 0 0 (.loc 0 0)) (.con (.loc 1 1) .nil)))
  .nil)
inductive uf (as:List EV) (sl:List SO) (P:EV->List SO->Prop):Prop
 |mk (b y:_) (h0:as=[.loc 0,.pv (.bytes y)]) (h1:sl=dZ b) (h2:J2+J3N<=65536) (h3:P (.pv .none) (dZ (b++y)))
theorem mn:ac 1 113 2 uf:=ar (kFn 7 rfl) vF aJ uY (by
 rintro _ _ P _ ⟨b,y,rfl,rfl,h,hP⟩
 exact (bv rfl rfl rfl h hP))
def jl:Nm:=⟨[("self",.local),("bytes",.globalImplicit)],false,["self"],[],[],false⟩
theorem qW:aG jl ["self"] [some 0] [] (ao (mS 10 4)):=aw rfl (by rfl)
def qx:PB jl 0 (ay (mS 10 4)):=
 (.con (.ret (.bf 1 dG (.con (.att 0 0 (.loc 0 0)) .nil)))
  .nil)
inductive pI (as:List EV) (sl:List SO) (P:EV->List SO->Prop):Prop
 |mk (b:_) (h0:as=[.loc 0]) (h1:sl=dZ b) (h2:J2<=65536) (h3:P (.pv (.bytes b)) (dZ b))
theorem fi:ac 1 127 1 pI:=ar (kFn 9 rfl) qW aJ qx (by
 rintro _ _ P _ ⟨b,rfl,rfl,h,hP⟩
 exact (ax rfl rfl h hP))
def g6:Nm:=⟨[("self",.local),("number",.local),("size",.local),("octets_of",.globalImplicit)],false,["self","number","size"],[],[],false⟩
theorem oE:aG g6 ["self","number","size"] [some 0,some 1,some 2] [] (ao (mS 10 1)):=aw rfl (by rfl)
def n8:PB g6 1 (ay (mS 10 1)):=
 (.con (.exp (.bm ux (.att 0 0 (.loc 0 0)) (.con (.fn 3 1 1 (J4 (n:=1) (J3 sr (by decide))) (.con (.loc 1 1) (.con (.loc 2 2) .nil))) .nil)))
  .nil)
inductive nG (as:List EV) (sl:List SO) (P:EV->List SO->Prop):Prop
 |mk (b:List UInt8) (k:Int) (m:Nat) (h0:as=[.loc 0,.pv (.int k),.pv (.int m)]) (h1:sl=dZ b) (h2:(0<=k/\k<256 ^ m/\m<=16/\J2+m<=65536)) (h3:P (.pv .none) (dZ (b++leB m k)))
theorem aU:ac 2 106 3 nG:=ar (kFn 6 rfl) oE aJ n8 (by
 rintro _ _ P _ ⟨b,k,m,rfl,rfl,⟨h1,h2,h3,h4⟩,hP⟩
 exact (bv rfl rfl rfl rfl ⟨k,m,rfl,rfl,(i_aa h1 h2 h3),by rw[bM];exact h4,hP⟩))
def ky:Nm:=⟨[("self",.local),("text",.local),("octets",.local),("text_octets",.globalImplicit),("len",.globalImplicit)],false,["self","text","octets"],[],[],false⟩
theorem tu:aG ky ["self","text"] [some 0,some 1,none] [] (ao (mS 10 3)):=aw rfl (by rfl)
def sK:PB ky 2 (ay (mS 10 3)):=
 (.con (.asg (.loc 2 2) (.fn 3 2 2 (J4 (n:=2) (J3 nU (by decide))) (.con (.loc 1 1) .nil)))
  (.con (.exp (.me 0 1 5 (some 17) (J4 (n:=2) (J3 aU (by decide))) (.loc 0 0) (.con (.bf 4 cv (.con (.loc 2 2) .nil)) (.con .int .nil))))
  (.con (.exp (.bm ux (.att 0 0 (.loc 0 0)) (.con (.loc 2 2) .nil)))
  .nil)))
inductive rD (as:List EV) (sl:List SO) (P:EV->List SO->Prop):Prop
 |mk (b:List UInt8) (l:List Nat) (h0:as=[.loc 0,.pv (.str ⟨J4E⟩)]) (h1:sl=dZ b) (h2:(okT l/\JV<=255/\J2<=60000)) (h3:P (.pv .none) (dZ (b++leB 1 (JE λc=>J5z).length++JE λc=>J5z)))
theorem sv:ac 3 120 2 rD:=ar (kFn 8 rfl) tu aJ sK (by
 rintro _ _ P _ ⟨b,l,rfl,rfl,⟨h1,h2,h3⟩,hP⟩
 refine⟨rfl,l,rfl,rfl,⟨h1,by omega⟩,(bv rfl rfl (by simp;omega) rfl ⟨b,_,1,rfl,rfl,(ax (by simp) (by simp;exact z10 0x111003f80e1ff2f8081 h2) (by decide) (by omega)),?_⟩)⟩
 exact (bv rfl rfl rfl (by simp [bM];exact z20 0x111100005f81180998ea604f808ff2f8182 h2 h3) hP))
theorem lg (n a:Nat):J5H n (a:Int)=min a n:=by
 unfold J5H
 rw[JL (J6X (J1G a))]
 refine J3a (JGR a n) (λh=> ?_) λh=> ?_
 ·rw[Int.min_eq_left (J4P h),J8o h,JDR (J1G _),J0l]
 ·rw[Int.min_eq_right (J4P h),J81 h,JDR (J1G _),J0l]
theorem qD {n a:Nat}(h:a<=n):J5H n (a:Int)=a:=(lg n a).trans (J8o h)
theorem DA {α:Type}{b:List α}{a m:Nat}(h:a+m<=J2):cut b (some (a:Int)) (some ((a:Int)+(m:Int)))=(J6S a).take m:=by
 show (J6S (J5H J2 (a:Int))).take (J5H J2 ((a:Int)+(m:Int)) - J5H J2 (a:Int))=_
 rw[qD (by exact z30 0x11108120981 h),show ((a:Int)+(m:Int))=((a+m:Nat):Int) by exact z20 0x11109e1e0e920,qD h,JA5]
theorem mx {α:Type}{b:List α}{a:Nat}(h:a<=J2):cut b none (some (a:Int))=J4x a:=by
 unfold cut
 show (J6S 0).take (J5H J2 (a:Int) - 0)=_
 rw[qD h];rfl
theorem Bf {α:Type}{b:List α}{a:Nat}(h:a<=J2):cut b (some (a:Int)) none=J6S a:=by
 unfold cut
 show (J6S (J5H J2 (a:Int))).take (J2 - J5H J2 (a:Int))=_
 rw[qD h,List.take_of_length_le (by rw[J3R];exact Jb _)]
def im (b:List UInt8) (a:Nat):List SO:=[.inst 180 [(0,.pv (.bytes b)),(1,.pv (.int a))]]
def sub (b:List UInt8) (a m:Nat):List UInt8:=(J6S a).take m
theorem eY {b:List UInt8}{a m:Nat}(h:a+m<=J2):(sub b a m).length=m:=by
 unfold sub;rw[J0k,J3R];exact z50 0x1001101010011011001000010100000110100010101011001000101000010a410c234b312983 h fS fM
def hU:Nm:=⟨[("self",.local),("octets",.local),("at",.local)],false,["self","octets","at"],[],[],false⟩
theorem oI:aG hU ["self","octets","at"] [some 0,some 1,some 2] [] (ao (mS 11 0)):=aw rfl (by rfl)
def oh:PB hU 0 (ay (mS 11 0)):=
 (.con (.asg (.att 1 0 (.loc 0 0)) (.loc 1 1))
  (.con (.asg (.att 1 1 (.loc 0 0)) (.loc 2 2))
  .nil))
inductive nK (as:List EV) (sl:List SO) (P:EV->List SO->Prop):Prop
 |mk (b:_) (h0:as=[.loc 0,.pv (.bytes b)]) (h1:sl=[.inst 180 []]) (h2:P (.pv .none) (im b 0))
theorem fy:ac 1 149 2 nK:=ar (dflE:=[.pv (.int 0)]) (kFn 11 rfl) oI (λy y=>.cons (.pv (.int _ _)) .nil) oh (by
 rintro _ _ P _ ⟨b,rfl,rfl,hP⟩
 exact (bv rfl rfl rfl rfl hP))
def g9:Nm:=⟨[("self",.local),("len",.globalImplicit)],false,["self"],[],[],false⟩
theorem oH:aG g9 ["self"] [some 0] [] (ao (mS 11 1)):=aw rfl (by rfl)
def og:PB g9 0 (ay (mS 11 1)):=
 (.con (.ret (.bin cz (.bf 1 cv (.con (.att 1 0 (.loc 0 0)) .nil)) (.att 1 1 (.loc 0 0))))
  .nil)
inductive nJ (as:List EV) (sl:List SO) (P:EV->List SO->Prop):Prop
 |mk (b a:_) (h0:as=[.loc 0]) (h1:sl=im b a) (h2:J2<=60000) (h3:P (.pv (.int (J2 - a))) (im b a))
theorem eC:ac 1 156 1 nJ:=ar (kFn 12 rfl) oH aJ og (by
 rintro _ _ P _ ⟨b,a,rfl,rfl,h,hP⟩
 exact (dM rfl rfl (by omega) rfl rfl hP))
def g8:Nm:=⟨[("self",.local),("many",.local),("found",.local),("Corrupt",.globalImplicit),("bytes",.globalImplicit)],false,["self","many","found"],[],[],false⟩
theorem oG:aG g8 ["self","many"] [some 0,some 1,none] [] (ao (mS 11 2)):=aw rfl (by rfl)
def oa:PB g8 1 (ay (mS 11 2)):=
 (.con (.iff (.cmp iN (.loc 1 1) (.me 1 6 10 none (J4 (n:=1) (J3 eC (by decide))) (.loc 0 0) .nil)) .ded .nil)
  (.con (.asg (.loc 2 2) (.bf 4 dG (.con (.slc (.att 1 0 (.loc 0 0)) (.som (.att 1 1 (.loc 0 0))) (.som (.bin aH (.att 1 1 (.loc 0 0)) (.loc 1 1)))) .nil)))
  (.con (.asg (.att 1 1 (.loc 0 0)) (.bin aH (.att 1 1 (.loc 0 0)) (.loc 1 1)))
  (.con (.ret (.loc 2 2))
  .nil))))
inductive nI (as:List EV) (sl:List SO) (P:EV->List SO->Prop):Prop
 |mk (b a m:_) (h0:as=[.loc 0,.pv (.int (m:Nat))]) (h1:sl=im b a) (h2:(J2<=60000/\a+m<=J2)) (h3:P (.pv (.bytes (sub b a m))) (im b (a+m)))
set_option tactic.hygienic true in
theorem dr:ac 2 163 2 nI:=ar (kFn 13 rfl) oG aJ oa (by
 rintro _ _ P _ ⟨b,a,m,rfl,rfl,⟨h1,h2⟩,hP⟩
 refine (ax rfl trivial rfl ⟨b,a,rfl,rfl,h1,bu (J0K (by exact z30 0x112e1e0ea13021981 h2)) ?_⟩)
 refine (dR rfl rfl rfl rfl rfl rfl (by omega) ?_)
 rw[DA h2]
 exact (bv rfl rfl rfl rfl hP))
def fD:Nm:=⟨[("self",.local),("size",.local),("number_of",.globalImplicit)],false,["self","size"],[],[],false⟩
theorem kZ:aG fD ["self","size"] [some 0,some 1] [] (ao (mS 11 3)):=aw rfl (by rfl)
def kT:PB fD 2 (ay (mS 11 3)):=
 (.con (.ret (.fn 2 0 0 (J4 (n:=2) (J3 j8 (by decide))) (.con (.me 1 7 11 none (J4 (n:=2) (J3 dr (by decide))) (.loc 0 0) (.con (.loc 1 1) .nil)) .nil)))
  .nil)
inductive kO (as:List EV) (sl:List SO) (P:EV->List SO->Prop):Prop
 |mk (b a m:_) (h0:as=[.loc 0,.pv (.int (m:Nat))]) (h1:sl=im b a) (h2:(J2<=60000/\a+m<=J2/\m<=1000)) (h3:P (.pv (.int (leV (sub b a m)))) (im b (a+m)))
set_option tactic.hygienic true in
theorem aM:ac 3 170 2 kO:=ar (kFn 14 rfl) kZ aJ kT (by
 rintro _ _ P _ ⟨b,a,m,rfl,rfl,⟨h1,h2,h3⟩,hP⟩
 exact (ax rfl trivial rfl ⟨b,a,m,rfl,rfl,⟨h1,h2⟩,rfl,_,rfl,rfl,by rw[eY h2];exact h3,hP⟩))
def g7:Nm:=⟨[("self",.local),("octets_text",.globalImplicit)],false,["self"],[],[],false⟩
theorem oF:aG g7 ["self"] [some 0] [] (ao (mS 11 4)):=aw rfl (by rfl)
def n9:PB g7 3 (ay (mS 11 4)):=
 (.con (.ret (.fn 1 3 3 (J4 (n:=3) (J3 nV (by decide))) (.con (.me 1 7 11 none (J4 (n:=3) (J3 dr (by decide))) (.loc 0 0) (.con (.me 1 8 12 (some 17) (J4 (n:=3) (J3 aM (by decide))) (.loc 0 0) (.con .int .nil)) .nil)) .nil)))
  .nil)
inductive nH (as:List EV) (sl:List SO) (P:EV->List SO->Prop):Prop
 |mk (b a m:_) (h0:as=[.loc 0]) (h1:sl=im b a) (h2:(J2<=60000/\a+1+m<=J2/\m<=255/\leV (sub b a 1)=(m:Nat)/\okB (sub b (a+1) m))) (h3:P (.pv (.str ⟨((sub b (a+1) m).map (·.toNat)).toArray⟩)) (im b (a+1+m)))
set_option tactic.hygienic true in
theorem nZ:ac 4 177 1 nH:=ar (kFn 15 rfl) oF aJ n9 (by
 rintro _ _ P _ ⟨b,a,m,rfl,rfl,⟨h1,h2,h3,h4,h5⟩,hP⟩
 refine (dM rfl trivial rfl rfl rfl ⟨b,a,1,rfl,rfl,(i_aa h1 (by exact z30 0x11118098121809981 h2) (by decide)),?_⟩)
 refine (h4).symm▸?_
 exact⟨rfl,b,a+1,m,rfl,rfl,⟨h1,h2⟩,rfl,_,rfl,rfl,⟨h5,by rw[eY h2];omega⟩,hP⟩)
inductive Fld where
 |t (l:List Nat)
 |n (k:Int)
 |o (b:List UInt8)
def Fld.pv:Fld->PV
 | .t l=>.str ⟨J4E⟩
 | .n k=>.int k
 | .o b=>.bytes b
def Fld.ch:Fld->Nat
 | .t _=>116
 | .n _=>110
 | .o _=>111
def Fld.ok:Fld->Prop
 | .t l=>okT l/\JV<=255
 | .n k=>0<=k/\k<4294967296
 | .o b=>J2<=1000
def Fld.enc:Fld->List UInt8
 | .t l=>leB 1 JV++JE λc=>J5z
 | .n k=>leB 4 k
 | .o b=>leB 2 J2++b
def Fld.size:Fld->Nat
 | .t l=>1+JV
 | .n _=>4
 | .o b=>2+J2
theorem Fld.enc_len (f:Fld):f.enc.length=J5F:=by
 cases f with
 |t l=>show (leB 1 _++_).length=_;rw[JO,bM,J6];rfl
 |n k=>exact bM 4 k
 |o b=>show (leB 2 _++_).length=_;rw[JO,bM];rfl
def uG:List (Nat×EV):=[(26,.pv (.tup [.int 1,.str "tn"])),(27,.pv (.tup [.int 2,.str "tn"])),(28,.pv (.tup [.int 3,.str "tt"])),(29,.pv (.tup [.int 4,.str "t"])),(30,.pv (.tup [.int 5,.str "t"])),
 (31,.pv (.tup [.int 6,.str "tt"])),(32,.pv (.tup [.int 7,.str "tt"])),(33,.pv (.tup [.int 8,.str "tno"])),(34,.pv (.tup [.int 9,.str "tn"])),(35,.pv (.tup [.int 10,.str "tn"]))]
theorem Co {i:Nat}{x:Str}{st:St}{P:EV->St->Prop}{as:List (Nat×EV)}{ev:EV}(h1:nth J5 i=some (.sdict as)) (h2:iV x as=some ev) (h:P ev st):FC [.loc i,.pv (.str x)] st P:=by
 show aj (cU BW (.loc i) st) _
 rw[df h1]
 show bj (iV x as) _ _
 rw[h2];exact h
def wt:Nm:=⟨[],false,[],[],[],false⟩
theorem Dc:aG wt [] [] [] (ao (aB 16)):=aw rfl (by rfl)
def CU:PB wt 0 (ay (aB 16)):=
 (.con (.ret (.dic (.con 26 (.tup (.con .int (.con .str .nil))) (.con 27 (.tup (.con .int (.con .str .nil))) (.con 28 (.tup (.con .int (.con .str .nil))) (.con 29 (.tup (.con .int (.con .str .nil))) (.con 30 (.tup (.con .int (.con .str .nil))) (.con 31 (.tup (.con .int (.con .str .nil))) (.con 32 (.tup (.con .int (.con .str .nil))) (.con 33 (.tup (.con .int (.con .str .nil))) (.con 34 (.tup (.con .int (.con .str .nil))) (.con 35 (.tup (.con .int (.con .str .nil))) .nil))))))))))))
  .nil)
def B9:jb:=λas sl P=>as=[]/\sl=[]/\P (.loc 0) [.sdict uG]
theorem v6:ac 1 198 0 B9:=ar (kFn 17 rfl) Dc aJ CU (by
 intro _ _ P _ hq9
 refine e0_3 hq9 λer0 er1 hP=> ?_
 clear hq9
 obtain rfl:=er0
 obtain rfl:=er1
 exact (fh (by decide) (by decide) (by decide) (by decide) (by decide) (by decide) (by decide) (by decide) (by decide) (by decide) hP))
def kx:Nm:=⟨[("word",.local),("found",.local),("forms",.globalImplicit),("Misused",.globalImplicit)],false,["word","found"],[],[],false⟩
theorem tr:aG kx ["word"] [some 0,none] [] (ao (aB 17)):=aw rfl (by rfl)
def sJ:PB kx 1 (ay (aB 17)):=
 (.con (.asg (.loc 1 1) (.bmx GP (.fn 2 5 15 (J4 (n:=1) (J3 v6 (by decide))) .nil) (.con (.loc 0 0) .nil)))
  (.con (.iff (.cmp zV (.loc 1 1) .non) .ded .nil)
  (.con (.ret (.loc 1 1))
  .nil)))
inductive rB (as:List EV) (sl:List SO) (P:EV->List SO->Prop):Prop
 |mk (x p:_) (h0:as=[.pv (.str x)]) (h1:sl=[]) (h2:(iV x uG=some (.pv (.tup p)))) (h3:P (.pv (.tup p)) [])
theorem j9:ac 2 205 1 rB:=ar (kFn 18 rfl) tr aJ sJ (by
 rintro _ _ P _ ⟨x,p,rfl,rfl,h,hP⟩
 refine (bv rfl rfl rfl rfl ⟨Co rfl h ?_⟩)
 exact hP)
def l8:List (Str×Int×Str):=[("create",1,"tn"),("make_dir",2,"tn"),("symlink",3,"tt"),("remove",4,"t"),("remove_dir",5,"t"),("link",6,"tt"),("rename",7,"tt"),("write",8,"tno"),("truncate",9,"tn"),("set_mode",10,"tn")]
theorem p9:∀k:Nat,k<10->(l8[k]?).map (λe=>e.2.1)=some ((k:Int)+1):=by decide+kernel
theorem j6 (k:Nat) (h:k<10):∃e,l8[k]? =some e/\e.2.1=(k:Int)+1:=Jw (p9 k h)
def pb:Nm:=⟨[("sort",.local),("word",.local),("told",.local),("forms",.globalImplicit),("Corrupt",.globalImplicit)],false,["sort","word","told"],[],[],false⟩
theorem yb:aG pb ["sort"] [some 0,none,none] [] (ao (aB 18)):=aw rfl (by rfl)
def xH:PB pb 1 (ay (aB 18)):=
 (.con (.fr (.itm (.fn 3 5 15 (J4 (n:=1) (J3 v6 (by decide))) .nil) (.tup (.con (.loc 1 1) (.con (.loc 2 2) .nil)))) (.con (.iff (.cmp cg (.sub (.loc 2 2) .int) (.loc 0 0)) (.con (.ret (.tup (.con (.loc 1 1) (.con (.sub (.loc 2 2) .int) .nil))))
  .nil) .nil)
  .nil))
  (.con .ded
  .nil))
inductive w0 (as:List EV) (sl:List SO) (P:EV->List SO->Prop):Prop
 |mk (i:Nat) (e:Str×Int×Str) (h0:l8[i]? =some e) (h1:as=[.pv (.int e.2.1)]) (h2:sl=[]) (h3:P (.pv (.tup [.str e.1,.str e.2.2])) [])
theorem xD:ac 2 212 1 w0:=ar (kFn 19 rfl) yb aJ xH (by
 rintro _ _ P _ ⟨i,e,he,rfl,rfl,hP⟩
 have hi:i<10:=(J04 he).1
 refine e1_2 (j6 i hi) λe' q1 q2=> ?_
 obtain rfl:e=e':=JT (JFQ q1)
 refine⟨rfl,rfl,rfl,λk st=>k<=i/\∃a b,st=⟨[some (.pv (.int e.2.1)),a,b],[],[],[.dead]⟩,(Dv (J1m _) none none rfl),?_,?_⟩
 ·clear q1
  rintro k x _ hx ⟨hk,a,b,rfl⟩ K hK
  refine e1_2 (j6 k (by exact z20 0x111a809108a8192 hi hk)) λe2 r1 r2=> ?_
  have hx2:x=[.str e2.1,.tup [.int e2.2.1,.str e2.2.2]]:=by
   have:(l8.map λe=>[J9h e.1,JEX [.int e.2.1,.str e.2.2]])[k]? =some x:=hx
   rw[JR,r1] at this
   exact (JT this).symm
  refine hx2.symm▸?_
  refine (i_aa trivial rfl ⟨⟨by decide,by decide⟩,?_⟩)
  by_cases h:k=i
  ·clear a hK hi hk hx2 q2 r2
   subst h
   obtain rfl:e=e2:=JT (JFQ r1)
   refine cw (by simp) ⟨(i_aa ⟨by decide,by decide⟩ (by simp) hP)⟩
  ·refine bu (by simp [q2,r2];exact z20 0x111011e0e2310a31 h) (hK _ (Dv (by exact z20 0x1111011809810a31082 hk h) _ _ rfl))
 ·rintro _ ⟨hk,_⟩
  exact absurd hi (J6V hk))
def jk:Nm:=⟨[("field",.local),("value",.local),("len",.globalImplicit)],false,["field","value"],[],[],false⟩
theorem qV:aG jk ["field","value"] [some 0,some 1] [] (ao (aB 19)):=aw rfl (by rfl)
def qw:PB jk 0 (ay (aB 19)):=
 (.con (.iff (.cmp cg (.loc 0 0) .str) (.con (.ret .int)
  .nil) .nil)
  (.con (.ret (.ife (.cmp cg (.loc 0 0) .str) (.bin aH .int (.bf 2 cv (.con (.loc 1 1) .nil))) (.bin aH .int (.bf 2 cv (.con (.loc 1 1) .nil)))))
  .nil))
inductive pG (as:List EV) (sl:List SO) (P:EV->List SO->Prop):Prop
 |mk (f:Fld) (h0:as=[.pv (.str ⟨#[f.ch]⟩),.pv f.pv]) (h1:sl=[]) (h2:f.ok) (h3:P (.pv (.int J5F)) [])
theorem ql:ac 1 219 2 pG:=ar (kFn 20 rfl) qV aJ qw (by
 rintro _ _ P _ ⟨f,rfl,rfl,h,hP⟩
 cases f with
 |n k=>exact hP
 |t l=>exact (⟨by have:=h.2;show J3K<=_;simp;omega,hP⟩)
 |o b=>exact (⟨by have:J2<=1000:=h;show J2<=_;omega,hP⟩))
structure Rc where
 word:Str
 sort:Nat
 flds:List Fld
def Rc.fs (r:Rc):Str:=⟨(J0z JB7).toArray⟩
def Rc.pv (r:Rc):PV:=.tup (.str JAZ::J0z J4V)
def Rc.size (r:Rc):Nat:=5+(J0z J1y).sum
structure Rc.ok (r:Rc):Prop where
 find:iV JAZ uG=some (.pv (.tup [.int J7l,.str JGv]))
 at_:∃i:Nat,l8[i]? =some (JAZ,(J7l:Int),JGv)
 flds:∀f∈JC7,f.ok
 few:J5M<=3
 one:1<=J5M
theorem AH (l:List Fld):(⟨(JE JB7).toArray⟩:Str).length=JV:=by show (JE JB7).toArray.size=_;simp
theorem sp (l:List Fld):(JE JB7).toArray.all (·<128)=true:=by
 rw[JDO,J1p]
 intro c hc
 refine e1_2 (Ja hc) λf y er0=> ?_
 obtain rfl:=er0
 cases f<;>rfl
theorem ix (l:List Fld):fw ⟨(JE JB7).toArray⟩ (JE J4V)=JE λf=>[.str ⟨#[f.ch]⟩,f.pv]:=by
 refine J3B λi=> ?_
 unfold fw
 rw[JR,JR]
 by_cases h:i<JV
 ·rw[J4q (by simpa using h)]
  simp [h]
 ·rw[J0H (by simpa using h),J0H (by simpa using h)];rfl
theorem yo {α:Type}(f:α->Nat) (l:List α):(JE λa=>(f a:Int)).sum=((JE f).sum:Nat):=by
 induction l with
 |nil=>rfl
 |cons a r ih=>simp only [J0t,J5S,ih];exact z20 0x11109e1e0e920
def mT:Nm:=⟨[("record",.local),("fields",.local),("fields_of",.globalImplicit),("len",.globalImplicit),("Misused",.globalImplicit),("ROW_HEAD",.globalImplicit),("sum",.globalImplicit),("zip",.globalImplicit)],false,["record","fields"],[],[],false⟩
def oy:Nm:=⟨[(".0",.local),("field",.local),("value",.local),("field_size",.globalImplicit)],true,["record","fields"],[],[".0","field","value"],false⟩
theorem vx:aG mT ["record"] [some 0,none] [] (ao (aB 20)):=aw rfl (by rfl)
def uQ:PB mT 2 (ay (aB 20)):=
 (.con (.asg (.loc 1 1) (.sub (.fn 2 6 16 (J4 (n:=2) (J3 j9 (by decide))) (.con (.sub (.loc 0 0) .int) .nil)) .int))
  (.con (.iff (.cmp eH (.bf 3 cv (.con (.loc 0 0) .nil)) (.bin aH .int (.bf 3 cv (.con (.loc 1 1) .nil)))) .ded .nil)
  (.con (.ret (.bin aH (.gli 5 46) (.bf 6 xZ (.con (.com (Γc:=oy) 3 (.zip 7 Gc (.con (.loc 1 1) (.con (.slc (.loc 0 0) (.som .int) .non) .nil)) (.tup (.con (.clo 1 1) (.con (.clo 2 2) .nil)))) .nil (.fn 3 8 18 (J4 (n:=2) (J3 ql (by decide))) (.con (.clo 1 1) (.con (.clo 2 2) .nil))) (aV rfl (by rfl))) .nil))))
  .nil)))
inductive ua (as:List EV) (sl:List SO) (P:EV->List SO->Prop):Prop
 |mk (r:Rc) (h0:as=[.pv JG4]) (h1:sl=[]) (h2:JEz) (h3:P (.pv (.int J3F)) [])
theorem md:ac 3 224 1 ua:=ar (kFn 21 rfl) vx aJ uQ (by
 rintro _ _ P _ ⟨r,rfl,rfl,h,hP⟩
 have hf:=h.few
 have el:(J9h JAZ::J0z J4V).length=J5M+1:=by simp
 refine⟨(i_aa ⟨by decide,by decide⟩ rfl ⟨_,_,rfl,rfl,JGF,⟨⟨by decide,by decide⟩,?_⟩⟩)⟩
 refine (i_aa (by rw[el];omega) (by rw[JBm,AH];omega) (bu (by rw[el,JBm,AH];simp;exact z10 0x110e189180e920) ?_))
 apply dz c3 (none,none,none) (g:=λx=>some (match x with |[.str f,v]=>.int ((match v with | .str s=>1+s.length| .bytes b=>2+J2|_=>4:Nat))|_=>.none))
 case hvi=>exact λP' h=>(i_aa (ax rfl rfl (by rw[el];omega) (by rw[el];omega)) ⟨sp _,by simp [JBm]⟩ h)
 case hl=>
  show (fw _ (J0z J4V)).length<=_
  rw[JBm,ix,J6];exact JJ hf (by decide)
 case hk=>exact λy=>trivial
 case turn=>
  rintro x hx ⟨a1,a2,a3⟩ R S hR _
  have hx:x∈fw JGv (J0z J4V):=hx
  rw[JBm,ix] at hx
  refine e1_2 (Ja hx) λf hf e=> ?_
  clear hx
  clear hx
  obtain rfl:x=[.str ⟨#[f.ch]⟩,f.pv]:=J5x
  refine⟨rfl,⟨rfl,f,rfl,rfl,JE5 f hf,hR _ (_,_,_) ?_⟩⟩
  cases f with
  |t l=>show some (J3G ((1+J3K:Nat):Int))=_;rw[J48];rfl
  |n k=>rfl
  |o b=>rfl
 case fin=>
  rw[cE]
  show aj (cA ((fw JGv (J0z J4V)).map _)) _
  rw[JBm,ix,Js,show J0z _=(J0z λf=>(J5F:Int)).map .int from by
   rw[Js]
   refine J0o λf y=> ?_
   cases f with
   |t l=>show J3G ((1+J3K:Nat):Int)=_;rw[J48];rfl
   |n k=>rfl
   |o b=>rfl,bN]
  show P (.pv (.int (5+(J0z λf=>(J5F:Int)).sum))) _
  rw[show (5+(J0z λf=>(J5F:Int)).sum)=(J3F:Int) by rw[yo];unfold J7f;exact z10 0x110589e0e58920]
  exact hP)
def km:Nm:=⟨[("sink",.local),("field",.local),("value",.local),("len",.globalImplicit),("MOST_TEXT",.globalImplicit),("Misused",.globalImplicit)],false,["sink","field","value"],[],[],false⟩
theorem th:aG km ["sink","field","value"] [some 0,some 1,some 2] [] (ao (aB 21)):=aw rfl (by rfl)
def sC:PB km 3 (ay (aB 21)):=
 (.con (.iff (.cmp cg (.loc 1 1) .str) (.con (.exp (.me 0 1 5 (some 17) (J4 (n:=3) (J3 aU (by decide))) (.loc 0 0) (.con (.loc 2 2) (.con .int .nil))))
  .nil) (.con (.iff (.cmp cg (.loc 1 1) .str) (.con (.iff (.cmp iN (.bf 3 cv (.con (.loc 2 2) .nil)) (.gli 4 47)) .ded .nil)
  (.con (.exp (.me 0 3 7 none (J4 (n:=3) (J3 sv (by decide))) (.loc 0 0) (.con (.loc 2 2) .nil)))
  .nil)) (.con (.exp (.me 0 1 5 (some 17) (J4 (n:=3) (J3 aU (by decide))) (.loc 0 0) (.con (.bf 3 cv (.con (.loc 2 2) .nil)) (.con .int .nil))))
  (.con (.exp (.me 0 2 6 none (J4 (n:=3) (J3 mn (by decide))) (.loc 0 0) (.con (.loc 2 2) .nil)))
  .nil)))
  .nil))
  .nil)
inductive ru (as:List EV) (sl:List SO) (P:EV->List SO->Prop):Prop
 |mk (b:List UInt8) (f:Fld) (h0:as=[.loc 0,.pv (.str ⟨#[f.ch]⟩),.pv f.pv]) (h1:sl=dZ b) (h2:(f.ok/\J2<=50000)) (h3:P (.pv .none) (dZ (b++f.enc)))
theorem sq:ac 4 231 3 ru:=ar (kFn 22 rfl) th aJ sC (by
 rintro _ _ P _ ⟨b,f,rfl,rfl,⟨h,h2⟩,hP⟩
 cases f with
 |n k=>exact (ax rfl rfl rfl ⟨b,k,4,rfl,rfl,(ax h.1 h.2 (by decide) (by exact z10 0x11100005f848098c3504f8081 h2)),hP⟩)
 |t l=>
  have h3:=h.2
  refine (⟨by show J3K<=_;simp;exact z10 0x11100005f808ff2f8081 h3,bu (by show decide ((255:Int)<(J3K:Nat))=_;simp;exact z10 0x11ff2f80e0ff2f8081 h3) ?_⟩)
  refine (ax rfl trivial rfl ⟨b,l,rfl,rfl,(i_aa h.1 h3 (by exact z10 0x11ea604f808c3504f8081 h2)),?_⟩)
  rw[J6,J0U];exact hP
 |o y=>
  have h3:J3N<=1000:=h
  refine (?_)
  refine (bv rfl rfl (by show J3N<=_;exact z10 0x11100005f8083e83f8081 h3) rfl ⟨b,_,2,rfl,rfl,(ax (by simp) (by simp;exact z10 0x11100005f80e13e83f8081 h3) (by decide) (by exact z10 0x11100005f828098c3504f8081 h2)),?_⟩)
  refine (ax rfl trivial rfl ⟨_,y,rfl,rfl,by rw[JO,bM];exact z20 0x111100005f812809983e83f818c3504f8082 h2 h3,?_⟩)
  rw[J0U];exact hP)
def jg:Nm:=⟨[("seq",.local),("record",.local),("sort",.local),("fields",.local),("sink",.local),("field",.local),("value",.local),("fields_of",.globalImplicit),("row_size",.globalImplicit),("Sink",.globalImplicit),("zip",.globalImplicit),("put_field",.globalImplicit)],false,["seq","record","sort","fields","sink","field","value"],[],[],false⟩
theorem qR:aG jg ["seq","record"] [some 0,some 1,none,none,none,none,none] [] (ao (aB 22)):=aw rfl (by rfl)
def qr:PB jg 4 (ay (aB 22)):=
 (.con (.asT (.con (.loc 2 2) (.con (.loc 3 3) .nil)) (.fn 7 6 16 (J4 (n:=4) (J3 j9 (by decide))) (.con (.sub (.loc 1 1) .int) .nil)))
  (.con (.exp (.fn 8 9 19 (J4 (n:=4) (J3 md (by decide))) (.con (.loc 1 1) .nil)))
  (.con (.asg (.loc 4 4) (.fn 9 40 66 (bC (n:=3) (J3 f7 (by decide)) (eI 0 rfl) (d6 0 rfl)) .nil))
  (.con (.exp (.me 0 1 5 (some 17) (J4 (n:=4) (J3 aU (by decide))) (.loc 4 4) (.con (.loc 2 2) (.con .int .nil))))
  (.con (.exp (.me 0 1 5 (some 17) (J4 (n:=4) (J3 aU (by decide))) (.loc 4 4) (.con (.loc 0 0) (.con .int .nil))))
  (.con (.fr (.zip 10 Gc (.con (.loc 3 3) (.con (.slc (.loc 1 1) (.som .int) .non) .nil)) (.tup (.con (.loc 5 5) (.con (.loc 6 6) .nil)))) (.con (.exp (.fn 11 10 20 (J4 (n:=4) (J3 sq (by decide))) (.con (.loc 4 4) (.con (.loc 5 5) (.con (.loc 6 6) .nil)))))
  .nil))
  (.con (.ret (.me 0 4 8 none (J4 (n:=4) (J3 fi (by decide))) (.loc 4 4) .nil))
  .nil)))))))
def rowB (seq:Int) (r:Rc):List UInt8:=leB 1 J7l++leB 4 seq++(J0z J90).flatten
theorem wf (l:List Fld) (h:∀f∈l,f.ok):(JE J90).flatten.length<=1002*JV:=by
 induction l with
 |nil=>exact Jb _
 |cons f r ih=>
  have h2:J5F<=1002:=by
   have:=h f JB
   cases f with
   |t l=>have:=this.2;show 1+JV<=_;exact z10 0x113ea3f801898ff2f8081 this
   |n k=>show 4<=1002;omega
   |o b=>have:J2<=1000:=this;show 2+J2<=_;exact z10 0x113ea3f8028983e83f8081 this
  have h1:=ih λg hg=>h g (Jk _ hg)
  rw[J0t,J3A,JO,JBw,J0w];exact z30 0x11118293ea3fb109823ea3fb183ea3f8082 h2 h1
inductive pF (as:List EV) (sl:List SO) (P:EV->List SO->Prop):Prop
 |mk (q:Int) (r:Rc) (h0:as=[.pv (.int q),.pv JG4]) (h1:sl=[]) (h2:(JEz/\0<=q/\q<4294967296/\J7l<256)) (h3:P (.pv (.bytes (rowB q r))) [])
theorem qc:ac 5 238 2 pF:=ar (kFn 23 rfl) qR aJ qr (by
 rintro _ _ P _ ⟨q,r,rfl,rfl,⟨h,h1,h2,h3⟩,hP⟩
 refine⟨(i_aa ⟨by decide,by decide⟩ rfl ⟨_,_,rfl,rfl,JGF,rfl,?_⟩)⟩
 refine⟨rfl,r,rfl,rfl,h,(dR rfl rfl rfl rfl rfl rfl rfl ⟨[],_,1,rfl,rfl,(ax (by omega) (by omega) (by decide) (by decide)),?_⟩)⟩
 refine (ax rfl rfl rfl ⟨_,_,4,rfl,rfl,(ax h1 h2 (by decide) (by rw[JO,bM];decide)),?_⟩)
 have el:(J9h JAZ::J0z J4V).length=J5M+1:=by simp
 have hf:=h.few
 refine⟨(ax rfl rfl (by rw[el];omega) (by rw[el];omega)),⟨sp _,by simp [JBm]⟩,λk st=>∃a b,st=⟨[some (.pv (.int q)),some (.pv JG4),some (.pv (.int J7l)),some (.pv (.str JGv)),some (.loc 0),a,b],[],[],dZ ([]++leB 1 J7l++leB 4 q++((J1b k).map J90).flatten)⟩,(ic none none ?_),?_,?_⟩
 ·show _=JAs _ _ _ (dZ (_++[]))
  rw[J0e];rfl
 ·intro k x _ hx hq9 K hK
  refine e2_1 hq9 λa b er0=> ?_
  clear hq9
  obtain rfl:=er0
  have hx:(fw JGv (J0z J4V))[k]? =some x:=hx
  rw[JBm,ix,JR] at hx
  refine e1_2 (Jw hx) λf hk er0=> ?_
  refine Jm▸?_
  have hl:=wf (J1b k) λg hg=>JE5 g (J6M hg)
  rw[J0k] at hl
  refine (ax trivial rfl rfl ⟨_,f,rfl,rfl,⟨JE5 f (J01 hk),?_⟩,?_⟩)
  ·rw[JO,JO,JO,bM,bM];simp only [J30];exact z40 0x1003ea3f13ea3f13ea3f03ea3f13ea3fc3504f805898132c23ea3fb0838183 hf hl fM
  ·refine hK _ (ic (some (.pv (.str ⟨#[f.ch]⟩))) (some (.pv f.pv)) ?_)
   rw[show J1b (k+1)=J1b k++[f] by rw[J0j,hk];rfl,Ji,J0u,<- J0U,show (J7E J90 [f]).flatten=f.enc from J0e _]
   rfl
 ·intro st2 hq9
  refine e2_1 hq9 λa b e=> ?_
  clear hq9
  have e2:J1b (fw JGv (List.drop 1 (J9h JAZ::J0z J4V))).length=JC7:=by
   show J1b (fw JGv (J0z J4V)).length=_
   rw[JBm,ix,J6,J0a]
  have e3:=JHG (JD (λl=>JAs _ _ _ (dZ (_++(JE J90).flatten))) e2)
  refine e3.symm▸?_
  have hl:=wf JC7 JE5
  refine (bv trivial rfl trivial rfl ⟨_,rfl,rfl,?_,hP⟩)
  rw[JO,JO,JO,bM,bM];simp only [J30];exact z20 0x113ea3f100005f80589813ea3fb0838182 hf hl)
theorem iC (b:List UInt8) (a m n:Nat):sub b a (m+n)=sub b a m++sub b (a+m) n:=by
 unfold sub
 rw[List.take_add,JFA]
theorem E5 {c:Nat}(h:c<256):JEH=c:=JDN h
theorem z8 {l:List Nat}(h:okT l):(JE λc=>J5z).map (·.toNat)=l:=by
 rw[Js]
 exact (J0o (g:=id) λc hc=>(E5 (by have:=h c hc;omega):JEH=c)).trans (JBs l)
theorem FJ {l:List Nat}(h:okT l):okB (JE λc=>J5z):=λc hc=>by
 refine e1_2 (Ja hc) λi hi er0=> ?_
 obtain rfl:=er0
 have:=h i hi
 rw[E5 (by omega)];exact this
def m8:Nm:=⟨[("cursor",.local),("field",.local)],false,["cursor","field"],[],[],false⟩
theorem vC:aG m8 ["cursor","field"] [some 0,some 1] [] (ao (aB 23)):=aw rfl (by rfl)
def uV:PB m8 4 (ay (aB 23)):=
 (.con (.iff (.cmp cg (.loc 1 1) .str) (.con (.ret (.me 1 8 12 (some 17) (J4 (n:=4) (J3 aM (by decide))) (.loc 0 0) (.con .int .nil)))
  .nil) .nil)
  (.con (.iff (.cmp cg (.loc 1 1) .str) (.con (.ret (.me 1 9 13 none (J4 (n:=4) (J3 nZ (by decide))) (.loc 0 0) .nil))
  .nil) .nil)
  (.con (.ret (.me 1 7 11 none (J4 (n:=4) (J3 dr (by decide))) (.loc 0 0) (.con (.me 1 8 12 (some 17) (J4 (n:=4) (J3 aM (by decide))) (.loc 0 0) (.con .int .nil)) .nil)))
  .nil)))
inductive uc (as:List EV) (sl:List SO) (P:EV->List SO->Prop):Prop
 |mk (b:List UInt8) (a:Nat) (f:Fld) (h0:as=[.loc 0,.pv (.str ⟨#[f.ch]⟩)]) (h1:sl=im b a) (h2:(J2<=60000/\f.ok/\a+J5F<=J2/\sub b a J5F=f.enc)) (h3:P (.pv f.pv) (im b (a+J5F)))
set_option tactic.hygienic true in
theorem uK:ac 5 245 2 uc:=ar (kFn 24 rfl) vC aJ uV (by
 rintro _ _ P _ ⟨b,a,f,rfl,rfl,⟨h0,h1,h2,h3⟩,hP⟩
 cases f with
 |n k=>
  have h2:a+4<=J2:=h2
  have h3:sub b a 4=leB 4 k:=h3
  refine (ax rfl rfl rfl ⟨b,a,4,rfl,rfl,(i_aa h0 h2 (by decide)),?_⟩)
  rw[h3,bP 4 k h1.1 h1.2];exact hP
 |t l=>
  have hl:=h1.2
  have h2:a+(1+JV)<=J2:=h2
  have h3:sub b a (1+JV)=leB 1 JV++JE λc=>J5z:=h3
  rw[iC] at h3
  obtain⟨e1,e2⟩:=J4r h3 (by rw[eY (by exact z30 0x11118098121890981 h2),bM])
  refine ((ax rfl trivial rfl ⟨b,a,JV,rfl,rfl,(bv h0 (by exact z30 0x1121180998211890981 h2) hl (by rw[e1];exact bP 1 _ (by exact z10 0x10e0800) (by exact z10 0x111003f80e1ff2f8081 hl)) (by rw[e2];exact FJ h1.1)),?_⟩))
  rw[e2,z8 h1.1,J24];exact hP
 |o y=>
  have hl:J3N<=1000:=h1
  have h2:a+(2+J3N)<=J2:=h2
  have h3:sub b a (2+J3N)=leB 2 J3N++y:=h3
  rw[iC] at h3
  obtain⟨e1,e2⟩:=J4r h3 (by rw[eY (by exact z30 0x11128098122890981 h2),bM])
  refine ((dM rfl trivial rfl rfl rfl ⟨b,a,2,rfl,rfl,(i_aa h0 (by exact z30 0x11128098122890981 h2) (by decide)),?_⟩))
  rw[e1,bP 2 _ (by exact z10 0x10e0800) (by exact z10 0x11100005f80e13e83f8081 hl)]
  refine⟨rfl,b,a+2,J3N,rfl,rfl,⟨h0,by exact z30 0x1121280998212890981 h2⟩,?_⟩
  rw[e2,J24];exact hP)
theorem BT {b:List UInt8}(l:List Fld):∀(A k:Nat) (f:Fld),l[k]? =some f->A+(JE J1y).sum<=J2->sub b A (JE J1y).sum=(JE J90).flatten->
  sub b (A+((JDv k).map J1y).sum) J5F=f.enc/\A+((JDv k).map J1y).sum+J5F<=J2/\((JDv (k+1)).map J1y).sum=((JDv k).map J1y).sum+J5F:=by
 induction l with
 |nil=>exact λy y y h=>nomatch h
 |cons g l ih=>
  intro A k f h hl e
  rw[J0t,J5S] at e hl
  rw[J0t,J3A,iC] at e
  refine e0_2 (J4r e (by rw[eY (by exact z40 0x112109823190981 hl),JBw])) λe1 e2=> ?_
  cases k with
  |zero=>cases h;exact⟨e1,JJ (J6m (J2f _ _) _) hl,J4I _ _⟩
  |succ k=>
   refine e0_3 (ih (A+g.size) k f h (JJ (J2z (J24 ..)) hl) e2) λh1 h2 h3=> ?_
   refine⟨(JD (sub b · J5F) (J24 ..)).symm.trans h1,JJ (J2z (JD (·+J5F) (J24 ..).symm)) h2,?_⟩
   exact (JD (g.size+·) h3).trans (J24 ..).symm
theorem z7 (l:List Fld):okT (JE JB7):=λc hc=>by
 refine e1_2 (Ja hc) λf y er0=> ?_
 obtain rfl:=er0
 cases f
 ·exact (by decide:32<=116/\116<127)
 ·exact (by decide:32<=110/\110<127)
 ·exact (by decide:32<=111/\111<127)
def te:Nm:=⟨[("cursor",.cell),("word",.local),("fields",.local),("seq",.local),("word_of",.globalImplicit),("tuple",.globalImplicit)],false,["word","fields","seq"],["cursor"],[],false⟩
def s9:Nm:=⟨[(".0",.local),("field",.local),("field_at",.globalImplicit),("cursor",.cell)],true,["word","fields","seq"],["cursor"],[".0","field"],false⟩
theorem BK:aG te ["cursor"] [none,none,none] [some 0] (ao (aB 24)):=aw rfl (by rfl)
def Bd:PB te 5 (ay (aB 24)):=
 (.con (.asT (.con (.loc 1 0) (.con (.loc 2 1) .nil)) (.fn 4 7 17 (J4 (n:=5) (J3 xD (by decide))) (.con (.me 1 8 12 (some 17) (J4 (n:=5) (J3 aM (by decide))) (.cel 0 0) (.con .int .nil)) .nil)))
  (.con (.asg (.loc 3 2) (.me 1 8 12 (some 17) (J4 (n:=5) (J3 aM (by decide))) (.cel 0 0) (.con .int .nil)))
  (.con (.ret (.tup (.con (.loc 3 2) (.con (.bin aH (.tup (.con (.loc 1 0) .nil)) (.bf 5 Bw (.con (.com (Γc:=s9) 2 (.of (.loc 2 1) (.clo 1 1)) .nil (.fn 2 12 22 (J4 (n:=5) (J3 uK (by decide))) (.con (.cel 3 0) (.con (.clo 1 1) .nil))) (aV rfl (by rfl))) .nil))) .nil))))
  .nil)))
def Fh (q:Int) (r:Rc):PV:=.tup [.int q,JG4]
theorem bS (q:Int) (r:Rc):(rowB q r).length=J3F:=by
 unfold rowB J7f
 rw[JO,JO,bM,bM]
 have:∀l:List Fld,(JE J90).flatten.length=(JE J1y).sum:=by
  intro l
  induction l with
  |nil=>rfl
  |cons f l ih=>rw[J0t,J3A,JO,ih,JBw];rfl
 rw[this]
inductive y8 (as:List EV) (sl:List SO) (P:EV->List SO->Prop):Prop
 |mk (b:List UInt8) (a:Nat) (q:Int) (r:Rc) (h0:as=[.loc 0]) (h1:sl=im b a) (h2:(J2<=60000/\JEz/\0<=q/\q<4294967296/\J7l<256/\a+J3F<=J2/\sub b a J3F=rowB q r)) (h3:P (.pv (Fh q r)) (im b (a+J3F)))
set_option tactic.hygienic true in
theorem AQ:ac 6 250 1 y8:=ar (kFn 25 rfl) BK aJ Bd (by
 rintro _ _ P _ ⟨b,a,q,r,rfl,rfl,⟨h0,h1,h2,h3,h4,h5,h6⟩,hP⟩
 have hsz:J3F=1+(4+(J0z J1y).sum):=by unfold J7f;exact z10 0x1104891890589a0
 rw[hsz] at h6
 unfold rowB at h6
 rw[iC,J0U] at h6
 refine e0_2 (J4r h6 (by rw[eY (by exact z40 0x110111809834891892a120982 h5 hsz),bM])) λe1 h6=> ?_
 rw[iC] at h6
 refine e0_2 (J4r h6 (by rw[eY (by exact z40 0x110114818099834891892a120982 h5 hsz),bM])) λe2 e3=> ?_
 refine e1_1 h1.at_ λi hi=> ?_
 refine (ax rfl rfl rfl ⟨b,a,1,rfl,rfl,(i_aa h0 (by exact z40 0x110111809834891892a120982 h5 hsz) (by decide)),?_⟩)
 rw[e1,bP 1 _ (by omega) (by omega)]
 refine⟨rfl,i,_,hi,rfl,rfl,rfl,?_⟩
 refine (ax rfl rfl rfl ⟨b,a+1,4,rfl,rfl,(i_aa h0 (by exact z40 0x110114818099834891892a120982 h5 hsz) (by decide)),?_⟩)
 refine (e2).symm▸?_
 refine (bP 4 _ h2 h3).symm▸?_
 refine⟨by simp,?_⟩
 apply DB c2 (none,none) (items:=J0z λf=>[.str ⟨#[f.ch]⟩]) (keep:=λst'=>aS (.pv (.str JGv)) st'=some ((J0z JB7).map λc=>.str ⟨#[c]⟩)) (slf:=λk=>im b (a+1+4+((J1b k).map J1y).sum)) (out:=J0z J4V)
 case hvi=>exact λP' h=>oN (z7 _) (by rw[au,Js];exact h)
 case hl=>rw[J6];exact JJ h1.few (by decide)
 case ho=>simp
 case hk=>exact λy y=>si (z7 _) _
 case turn=>
  rintro k x p hx hp ⟨a1,a2⟩ R S hR
  rw[JR] at hx hp
  refine e1_2 (Jw hx) λf hf er0=> ?_
  refine Jm▸?_
  rw[hf] at hp
  obtain rfl:f.pv=p:=JT hp
  refine e0_3 (BT JC7 (a+1+4) k f hf (by exact z40 0x11012148180999814891893a230982 h5 hsz) e3) λq1 q2 q3=> ?_
  refine⟨rfl,b,_,f,rfl,rfl,(ax h0 (h1.flds f (J01 hf)) q2 q1),?_⟩
  have:=hR (a1,some (.pv (.str ⟨#[f.ch]⟩)))
  rw[q3,<- J24] at this
  exact this
 case fin=>
  have ho:=h1.one
  rw[J6,J0a]
  have hf:=h1.few
  refine (ax (by simp;omega) (i_aa (by simp) (by simp;omega) (by simp [bc];exact z10 0x11100005f80189838081 hf)) (by simp) ?_)
  have:=hP
  rw[hsz,<- J24,<- J24] at this
  exact this)
theorem dW {a b c:Int}{st:St}{P':List (List PV)×(St->Prop)->St->Prop}(h:dY a b c=true) (hp:P' (bt (cI a b c),λst'=>aS (.pv (.rng a b c)) st'=some (cI a b c)) st):vN (λst P=>P (.pv (.rng a b c)) st) st P':=by
 have e:∀st,aS (.pv (.rng a b c)) st=some (cI a b c):=λst=>JC h
 show aj (aS (.pv (.rng a b c)) st) λps=>P' (bt ps,λst'=>aS (.pv (.rng a b c)) st'=some ps) st
 rw[e];exact hp
theorem jA {a b c:Int}(h:dY a b c=true) (st:St):aS (.pv (.rng a b c)) st=some (cI a b c):=JC h
def wr (p:List Nat) (k:Int) (b:List UInt8):Rc:=⟨"write",8,[.t p,.n k,.o b]⟩
def pcs (c:Int) (p:List Nat) (k:Int) (b:List UInt8):List Rc:=(JZ (rngN 0 J2 c)).map λi:Nat=>wr p (k+(0+(i:Int)*c)) (cut b (some (0+(i:Int)*c)) (some (0+(i:Int)*c+c)))
def parts (room:Int) (r:Rc):List Rc:=if (J3F:Int)<=room then [r] else match JC7 with
 |[.t p,.n k,.o b]=>pcs (room - (J3F - J2)) p k b
 |_=>[r]
def i6 (room:Int) (r:Rc):Prop:=(J3F:Int)<=room∨∃p k b,r=wr p k b/\1<=room - (J3F - J2)/\J2<=1000/\room<=1000
theorem parts_le {room:Int}{r:Rc}(h:(J3F:Int)<=room):parts room r=[r]:=JC h
theorem iK {room:Int}{p:List Nat}{k:Int}{b:List UInt8}(h:¬(((wr p k b).size:Int)<=room)):parts room (wr p k b)=pcs (room - ((wr p k b).size - J2)) p k b:=JL h
theorem iI {L:Nat}{c:Int}(hc:1<=c):rngN 0 L c<=L:=by
 unfold rngN J0X
 rw[JC (by omega)]
 split
 ·have:((L:Int) - 0 - 1) / c<=(L:Int) - 0 - 1:=JDS _ (by omega)
  exact z12 0x100100010010110181718291218080eaa203 this rfl fT
 ·simp
def mU:Nm:=⟨[("record",.local),("most",.local),("left",.local),("word",.cell),("path",.cell),("at",.cell),("octets",.cell),("room",.cell),("row_size",.globalImplicit),("Misused",.globalImplicit),("len",.globalImplicit),("range",.globalImplicit)],false,["record","most","left"],["room","octets","at","path","word"],[],false⟩
def oz:Nm:=⟨[(".0",.local),("begin",.local),("at",.cell),("octets",.cell),("path",.cell),("room",.cell),("word",.cell)],true,["record","most","left"],["room","octets","at","path","word"],[".0","begin"],false⟩
theorem vy:aG mU ["record","most"] [some 0,some 1,none] [none,none,none,none,none] (ao (aB 25)):=aw rfl (by rfl)
def uR:PB mU 3 (ay (aB 25)):=
 (.con (.asg (.loc 2 2) (.fn 8 9 19 (J4 (n:=3) (J3 md (by decide))) (.con (.loc 0 0) .nil)))
  (.con (.iff (.cmp lT (.loc 2 2) (.loc 1 1)) (.con (.ret (.lst (.con (.loc 0 0) .nil)))
  .nil) .nil)
  (.con (.iff (.cmp eH (.sub (.loc 0 0) .int) .str) .ded .nil)
  (.con (.asT (.con (.cel 3 4) (.con (.cel 4 3) (.con (.cel 5 2) (.con (.cel 6 1) .nil)))) (.loc 0 0))
  (.con (.asg (.cel 7 0) (.bin cz (.loc 1 1) (.bin cz (.loc 2 2) (.bf 10 cv (.con (.cel 6 1) .nil)))))
  (.con (.iff (.cmp iM (.cel 7 0) .int) .ded .nil)
  (.con (.ret (.com (Γc:=oz) 2 (.of (.bf 11 iv (.con .int (.con (.bf 10 cv (.con (.cel 6 1) .nil)) (.con (.cel 7 0) .nil)))) (.clo 1 1)) .nil (.tup (.con (.cel 6 4) (.con (.cel 4 3) (.con (.bin aH (.cel 2 2) (.clo 1 1)) (.con (.slc (.cel 3 1) (.som (.clo 1 1)) (.som (.bin aH (.clo 1 1) (.cel 5 0)))) .nil))))) (aV rfl (by rfl))))
  .nil)))))))
inductive ub (as:List EV) (sl:List SO) (P:EV->List SO->Prop):Prop
 |mk (r:Rc) (room:Int) (h0:as=[.pv JG4,.pv (.int room)]) (h1:sl=[]) (h2:(JEz/\i6 room r)) (h3:P (.pv (.lst ((parts room r).map J6L))) [])
theorem uJ:ac 4 255 2 ub:=ar (kFn 26 rfl) vy aJ uR (by
 rintro _ _ P _ ⟨r,room,rfl,rfl,⟨h1,h2⟩,hP⟩
 refine⟨rfl,r,rfl,rfl,h1,?_⟩
 by_cases h:(J3F:Int)<=room
 ·rw[parts_le h] at hP
  exact cw (Jq h) ⟨by simp,hP⟩
 ·refine bu (J0K h) ?_
  clear h1
  rcases h2 with h2|⟨p,k,b,rfl,h3,h4,h5⟩
  ·exact absurd h2 h
  ·rw[iK h] at hP
   refine⟨⟨⟨by decide,by decide⟩,?_⟩⟩
   refine (i_aa rfl (by show J2<=_;omega) (bu (J0K (by exact z21 0x11181e0ea2a131e0ea2a1801 h3)) ?_))
   have hs:dY 0 J2 (room - ((wr p k b).size - J2))=true:=Jq (by exact z21 0x1101101011001011100010003b9aca008f80e1ea2a00e1ea2a08143b9aca008f80e040e3b9aca008f8d043b9aca008f80804083b9aca008f8d043e83f8080e1ea2a18021e033 h h3 h4)
   apply dz c2 (none,none) (g:=λx=>some (match x with |[.int i]=>.tup [.str "write",.str ⟨p.toArray⟩,.int (k+i),.bytes (cut b (some i) (some (i+(room - ((wr p k b).size - J2)))))]|_=>.none))
   case hvi=>exact λP' h=>(i_aa (by show J2<=_;omega) (by exact z21 0x111010013b9aca008f81e0ea2a11e0ea2a08143e83f8203e83f8181e0ea2a1803 h3 h4 h5) (dW hs h))
   case hl=>simp only [bt,cI,J6,J0I];exact JJ (iI h3) (JJ h4 (by decide))
   case hk=>exact λy=>jA hs _
   case turn=>
    rintro x hx ⟨a1,a2⟩ R S hR _
    unfold cI at hx
    rw[au] at hx
    refine e1_2 (Ja hx) λi y er0=> ?_
    clear hx
    obtain rfl:=er0
    exact (i_aa (by show J2<=_;omega) (by simp) (hR _ (_,_) rfl))
   case fin=>
    rw[cE]
    unfold cI
    rw[au,Js]
    unfold pcs at hP
    rw[Js] at hP
    exact hP)
def wordsV (b:List UInt8):List Int:=(JZ (rngN 0 J2 4)).map λi:Nat=>leV (cut b (some (0+(i:Int)*4)) (some (0+(i:Int)*4+4)))
theorem uZ {α:Type}(b:List α) (x y:Option Int):(cut b x y).length<=J2:=by
 unfold cut;rw[J0k,J3R];exact z50 0x10010011101001100101110101108240c312b2 fS fM
theorem cS (b:List UInt8):∀w∈wordsV b,0<=w:=λw hw=>by
 refine e1_2 (Ja hw) λi y er0=> ?_
 clear hw
 obtain rfl:=er0
 exact fe _
theorem wz (b:List UInt8):(wordsV b).length<=J2:=by
 unfold wordsV;rw[J6,J0I];exact iI (by decide)
def mQ:Nm:=⟨[("octets",.cell),("range",.globalImplicit),("len",.globalImplicit),("WORD",.globalImplicit)],false,[],["octets"],[],false⟩
def ow:Nm:=⟨[(".0",.local),("at",.local),("number_of",.globalImplicit),("WORD",.globalImplicit),("octets",.cell)],true,[],["octets"],[".0","at"],false⟩
theorem vw:aG mQ ["octets"] [] [some 0] (ao (aB 39)):=aw rfl (by rfl)
def uP:PB mQ 1 (ay (aB 39)):=
 (.con (.ret (.com (Γc:=ow) 2 (.of (.bf 1 iv (.con .int (.con (.bf 2 cv (.con (.cel 0 0) .nil)) (.con (.gli 3 53) .nil)))) (.clo 1 1)) .nil (.fn 2 0 0 (J4 (n:=1) (J3 j8 (by decide))) (.con (.slc (.cel 4 0) (.som (.clo 1 1)) (.som (.bin aH (.clo 1 1) (.gli 3 53)))) .nil)) (aV rfl (by rfl))))
  .nil)
inductive tZ (as:List EV) (sl:List SO) (P:EV->List SO->Prop):Prop
 |mk (b:_) (h0:as=[.pv (.bytes b)]) (h1:sl=[]) (h2:J2<=1000) (h3:P (.pv (.lst ((wordsV b).map .int))) [])
theorem uI:ac 2 312 1 tZ:=ar (kFn 30 rfl) vw aJ uP (by
 rintro _ _ P _ ⟨b,rfl,rfl,h,hP⟩
 have hs:dY 0 J2 4=true:=Jq (by exact z10 0x1010111010103b9aca008f84804808143b9aca008f80e040e3b9aca008f8d043b9aca008f80804083b9aca008f8d043e83f8081 h)
 apply dz c2 (none,none) (g:=λx=>some (match x with |[.int i]=>.int (leV (cut b (some i) (some (i+4))))|_=>.none))
 case hvi=>exact λP' h'=>(i_aa (by omega) ⟨by decide,by decide⟩ (dW hs h'))
 case hl=>simp only [bt,cI,J6,J0I];exact JJ (iI (by decide)) (JJ h (by decide))
 case hk=>exact λy=>jA hs _
 case turn=>
  rintro x hx ⟨a1,a2⟩ R S hR _
  unfold cI at hx
  rw[au] at hx
  refine e1_2 (Ja hx) λi y er0=> ?_
  clear hx
  obtain rfl:=er0
  exact (i_aa (by omega) rfl ⟨_,rfl,rfl,JJ (uZ _ _ _) h,hR _ (_,_) rfl⟩)
 case fin=>
  rw[cE]
  unfold cI
  rw[au,Js]
  unfold wordsV at hP
  rw[Js] at hP
  exact hP)
def M32:Int:=4294967295
def jy (x:Int):Int:=J55 x M32
theorem pQ {x:Int}(h:0<=x):jy x=x % 4294967296:=by
 delta jy J55
 refine (Jq h).symm▸?_
 show ((((x).toNat &&& (2 ^ 32 - 1):Nat)):Int)=_
 rw[J7q]
 exact (JDQ ..).trans (JD (λz:Int=>z % 4294967296) (J2X h))
def rowsL (ws:List Int):List (Int×Int):=(JZ Jx).map λk:Nat=>((Jx:Int) - k,JGl k 0)
def lP (p:Int×Int):PV:=.tup [.int p.1,.int p.2]
theorem rN {ws:List Int}(h:∀w∈ws,0<=w):∀p∈rowsL ws,0<=p.1/\p.1<=Jx/\0<=p.2:=λp hp=>by
 refine e1_2 (Ja hp) λk hk er0=> ?_
 obtain rfl:=er0
 have:=J1d hk
 refine⟨by show (0:Int)<=Jx - k;exact z20 0x111e0ea0800191 this,by show (Jx:Int) - k<=Jx;exact z20 0x10e1e0ea00,?_⟩
 show 0<=JGl k 0
 rw[J02,Jy this]
 exact h _ (J5g this)
theorem ug (ws:List Int):(eO (J5k .int)).map (λx=>match x with |[.int k,.int w]=>.tup [.int ((Jx:Int) - k),.int w]|_=>.none)=(rowsL ws).map lP:=by
 delta eO rowsL
 refine (Js).symm▸?_
 rw[Js,J6]
 refine J0o λk hk=> ?_
 have hk:=J1d hk
 show (match [J3G (k:Int),(J5k J3G).getD k .none] with |[.int k,.int w]=>JEX [.int ((Jx:Int) - k),.int w]|_=>.none)=lP ((Jx:Int) - k,JGl k 0)
 refine (J02).symm▸?_
 refine (JR).symm▸?_
 refine (Jy hk).symm▸?_
 refine (J02).symm▸?_
 refine (Jy hk).symm▸?_
 rfl
def f1 (p:Int×Int):Int:=p.1*p.2
def f2 (p:Int×Int):Int:=JAD (p.1*(p.1+1)) 2*p.2
def f3 (p:Int×Int):Int:=JAD (p.1*(p.1+1)*(p.1+2)) 6*p.2
def fl4 (b:List UInt8):List Int:=[jy (wordsV b).sum,jy ((rowsL (wordsV b)).map f1).sum,jy ((rowsL (wordsV b)).map f2).sum,jy ((rowsL (wordsV b)).map f3).sum]
theorem po {l:List Int}(h:∀w∈l,0<=w):0<=l.sum:=by
 induction l with
 |nil=>exact J4s _
 |cons a r ih=>
  exact J9L (h a JB) (ih λw hw=>h w (Jk _ hw))
theorem AM (b:List UInt8):∀x∈fl4 b,0<=x/\x<4294967296:=by
 have hr:=rN (cS b)
 have key:∀{x:Int},0<=x->0<=jy x/\jy x<4294967296:=λh=>by rw[pQ h];exact z03 0x11000101001000000009f8010080421000000009f01d1 fZ
 have n3:∀p∈rowsL (wordsV b),0<=f3 p:=λp hp=>J1C (by rw[J0b _ (by decide)];exact J4t (J1C (J1C (hr p hp).1 (by have:=(hr p hp).1;omega)) (by have:=(hr p hp).1;omega)) (by decide)) (hr p hp).2.2
 have s:∀(f:Int×Int->Int),(∀p∈rowsL (wordsV b),0<=f p)->0<=((rowsL (wordsV b)).map f).sum:=λf hf=>po λw hw=>by obtain⟨p,hp,rfl⟩:=Ja hw;exact hf p hp
 intro x hx
 rcases Jf hx with rfl|hx
 ·exact key (po (cS b))
 rcases Jf hx with rfl|hx
 ·exact key (s f1 (λp hp=>J1C (hr p hp).1 (hr p hp).2.2))
 rcases Jf hx with rfl|hx
 ·exact key (s f2 (λp hp=>J1C (by rw[J0b _ (by decide)];exact J4t (J1C (hr p hp).1 (by have:=(hr p hp).1;omega)) (by decide)) (hr p hp).2.2))
 rcases Jf hx with rfl|hx
 ·exact key (s f3 n3)
 cases hx
def ku:Nm:=⟨[("octets",.local),("words",.cell),("rows",.local),("second",.local),("third",.local),("fourth",.local),("words_of",.globalImplicit),("enumerate",.globalImplicit),("sum",.globalImplicit),("MASK",.globalImplicit)],false,["octets","rows","second","third","fourth"],["words"],[],false⟩
def m7:Nm:=⟨[(".0",.local),("place",.local),("word",.local),("len",.globalImplicit),("words",.cell)],true,["octets","rows","second","third","fourth"],["words"],[".0","place","word"],false⟩
def m6:Nm:=⟨[(".0",.local),("many",.local),("word",.local)],true,["octets","rows","second","third","fourth"],["words"],[".0","many","word"],false⟩
def m5:Nm:=⟨[(".0",.local),("many",.local),("word",.local)],true,["octets","rows","second","third","fourth"],["words"],[".0","many","word"],false⟩
def m4:Nm:=⟨[(".0",.local),("many",.local),("word",.local)],true,["octets","rows","second","third","fourth"],["words"],[".0","many","word"],false⟩
theorem tn:aG ku ["octets"] [some 0,none,none,none,none] [none] (ao (aB 41)):=aw rfl (by rfl)
def sI:PB ku 2 (ay (aB 41)):=
 (.con (.asg (.cel 1 0) (.fn 6 15 27 (J4 (n:=2) (J3 uI (by decide))) (.con (.loc 0 0) .nil)))
  (.con (.asC (Γc:=m7) 2 1 3 (.enm 7 DC (.con (.cel 1 0) .nil) (.tup (.con (.clo 1 1) (.con (.clo 2 2) .nil)))) .nil (.tup (.con (.bin cz (.bf 3 cv (.con (.cel 4 0) .nil)) (.clo 1 1)) (.con (.clo 2 2) .nil))) (aV rfl (by rfl)))
  (.con (.asg (.loc 3 2) (.bf 8 xZ (.con (.com (Γc:=m6) 3 (.of (.loc 2 1) (.tup (.con (.clo 1 1) (.con (.clo 2 2) .nil)))) .nil (.bin dE (.clo 1 1) (.clo 2 2)) (aV rfl (by rfl))) .nil)))
  (.con (.asg (.loc 4 3) (.bf 8 xZ (.con (.com (Γc:=m5) 3 (.of (.loc 2 1) (.tup (.con (.clo 1 1) (.con (.clo 2 2) .nil)))) .nil (.bin dE (.bin uo (.bin dE (.clo 1 1) (.bin aH (.clo 1 1) .int)) .int) (.clo 2 2)) (aV rfl (by rfl))) .nil)))
  (.con (.asg (.loc 5 4) (.bf 8 xZ (.con (.com (Γc:=m4) 3 (.of (.loc 2 1) (.tup (.con (.clo 1 1) (.con (.clo 2 2) .nil)))) .nil (.bin dE (.bin uo (.bin dE (.bin dE (.clo 1 1) (.bin aH (.clo 1 1) .int)) (.bin aH (.clo 1 1) .int)) .int) (.clo 2 2)) (aV rfl (by rfl))) .nil)))
  (.con (.ret (.tup (.con (.bin lU (.bf 8 xZ (.con (.cel 1 0) .nil)) (.gli 9 54)) (.con (.bin lU (.loc 3 2) (.gli 9 54)) (.con (.bin lU (.loc 4 3) (.gli 9 54)) (.con (.bin lU (.loc 5 4) (.gli 9 54)) .nil))))))
  .nil))))))
theorem jM {ws:List Int}{vt:List PV->VC Unit}{vtest:VC Bool}{ve:VC EV}{P:EV->St->Prop}{s0:St}{lo ce co:List (Option EV)}{sl:List SO}{vi:VC (List (List PV)×(St->Prop))}{e0:EV}(f:Int×Int->Int)
  (he:∀st,aS e0 st=some ((rowsL ws).map lP)) (hvi:∀P',P' (bt ((rowsL ws).map lP),λst'=>aS e0 st'=some ((rowsL ws).map lP)) ⟨lo,ce,co,sl⟩->vi s0 P') (hl:Jx<=1000)
  (turn:∀p∈rowsL ws,∀a,∀(R:PV->St->Prop) (S:St->Prop),(∀a,R (.int (f p)) ⟨lo,ce,c3 a,sl⟩)->vt [lP p] ⟨lo,ce,c3 a,sl⟩ λy st3=>vtest st3 λb st4=>ifB b (ve st4 λe st5=>AA e λp=>R p st5) (S st4))
  (fin:P (.pv (.lst (((rowsL ws).map f).map .int))) ⟨lo,ce,[],sl⟩):s6 vi vt vtest ve [none,none,none] s0 P:=by
 refine dz c3 (none,none,none) (bt ((rowsL ws).map lP)) _ (λx=>some (match x with |[.tup [.int m,.int w]]=>.int (f (m,w))|_=>.none)) hvi ?_ (λy=>he _) ?_ ?_
 ·simp only [bt,rowsL,J6,J0I];exact JJ hl (by decide)
 ·intro x hx a R S hR _
  rw[au] at hx
  refine e1_2 (Ja hx) λp hp er0=> ?_
  clear hx
  obtain rfl:=er0
  exact turn p hp a R S λa=>hR _ a rfl
 ·rw[cE,au,Js]
  rw[Js] at fin
  exact fin
inductive rA (as:List EV) (sl:List SO) (P:EV->List SO->Prop):Prop
 |mk (b:_) (h0:as=[.pv (.bytes b)]) (h1:sl=[]) (h2:J2<=1000) (h3:P (.pv (.tup ((fl4 b).map .int))) [])
theorem su:ac 3 324 1 rA:=ar (kFn 31 rfl) tn aJ sI (by
 rintro _ _ P _ ⟨b,rfl,rfl,h,hP⟩
 have hw:=JJ (wz b) h
 have hr:=rN (cS b)
 refine⟨rfl,b,rfl,rfl,h,?_⟩
 apply dz c3 (none,none,none) (g:=λx=>some (match x with |[.int k,.int w]=>.tup [.int (((wordsV b).length:Int) - k),.int w]|_=>.none))
 case hvi=>exact λP' h=>h
 case hl=>rw[dS,J6];exact JJ hw (by decide)
 case hk=>exact λy=>rfl
 case turn=>
  rintro x hx ⟨a1,a2,a3⟩ R S hR _
  obtain⟨k,hk⟩:=J15 hx
  clear hx
  obtain⟨p,h2,rfl⟩:=eN hk
  rw[JR] at h2
  clear hk
  obtain⟨c,h3,rfl⟩:=Jw h2
  refine⟨rfl,⟨by simp;omega,by simp,?_⟩⟩
  have:=hR _ (a1,some (.pv (.int k)),some (.pv (.int c))) rfl
  rw[show ((J7E J3G (wordsV b)).length)=(wordsV b).length from J6 _]
  exact this
 case fin=>
  rw[cE,ug]
  apply jM (ws:=wordsV b) f1
  case hvi=>exact λP' h=>h
  case he=>exact λy=>rfl
  case hl=>exact hw
  case turn=>
   rintro⟨m,w⟩ hp ⟨a1,a2,a3⟩ R S hR
   have:=hr _ hp
   exact⟨rfl,⟨by exact z21 0x1000101001101100000000000000000f80920f1e2020803e83f8184 hw this.1 this.2.1 fA,hR (_,_,_)⟩⟩
  case fin=>
   show aj (cA _) _
   rw[bN]
   apply jM (ws:=wordsV b) f2
   case hvi=>exact λP' h=>h
   case he=>exact λy=>rfl
   case hl=>exact hw
   case turn=>
    rintro⟨m,w⟩ hp ⟨a1,a2,a3⟩ R S hR
    have:=hr _ hp
    have h2:(m*(m+1))<=1000*1001:=J53 (by exact z11 0x1113e83f8100e103e83f8082 hw this.2.1) (by exact z11 0x1113e93f8181900e103e83f8082 hw this.2.1) (by omega) (by omega)
    have h3:0<=m*(m+1):=J1C this.1 (by omega)
    refine⟨rfl,⟨by exact z21 0x1000101001101100000000000000000f80920f1e2020803e83f8184 hw this.1 this.2.1 fA,⟨by decide,by decide⟩,?_,hR (_,_,_)⟩⟩
    rw[J0b _ (by decide)]
    show (m*(m+1) / 2).natAbs<_
    exact z13 0x2001010102002010101100000000000000000f80920f1232d10803e93f83e83fb104 h2 h3 fZ fA
   case fin=>
    show aj (cA _) _
    rw[bN]
    apply jM (ws:=wordsV b) f3
    case hvi=>exact λP' h=>h
    case he=>exact λy=>rfl
    case hl=>exact hw
    case turn=>
     rintro⟨m,w⟩ hp ⟨a1,a2,a3⟩ R S hR
     have:=hr _ hp
     have h2:(m*(m+1))<=1000*1001:=J53 (by exact z11 0x1113e83f8100e103e83f8082 hw this.2.1) (by exact z11 0x1113e93f8181900e103e83f8082 hw this.2.1) (by omega) (by omega)
     have h3:0<=m*(m+1):=J1C this.1 (by omega)
     have h4:(m*(m+1))*(m+2)<=1000*1001*1002:=J53 h2 (by exact z11 0x1113ea3f8281900e103e83f8082 hw this.2.1) (by omega) (by omega)
     have h5:0<=m*(m+1)*(m+2):=J1C h3 (by omega)
     refine⟨rfl,⟨by exact z21 0x1000101001101100000000000000000f80920f1e2020803e83f8184 hw this.1 this.2.1 fA,by show (m*(m+1)).natAbs<_;exact z11 0x10010100101100000000000000000f80910f10803e93f83e83fb103 h2 h3 fA,⟨by decide,by decide⟩,?_,hR (_,_,_)⟩⟩
     rw[J0b _ (by decide)]
     show (m*(m+1)*(m+2) / 6).natAbs<_
     exact z13 0x6001010106006010101100000000000000000f80920f1632d10803ea3f3e93f83e83fbc104 h4 h5 fZ fA
    case fin=>
     show aj (cA _) _
     rw[bN]
     show aj (cA _) _
     rw[bN]
     exact⟨by simp,hP⟩)
def s8:Nm:=⟨[("which",.local),("octets",.local),("OFF",.globalImplicit),("NOTHING",.globalImplicit),("FLETCHER2",.globalImplicit),("fletcher2",.globalImplicit),("FLETCHER4",.globalImplicit),("fletcher4",.globalImplicit),("MIX",.globalImplicit),("mix",.globalImplicit),("Misused",.globalImplicit)],false,["which","octets"],[],[],false⟩
theorem BJ:aG s8 ["which","octets"] [some 0,some 1] [] (ao (aB 45)):=aw rfl (by rfl)
def Bc:PB s8 3 (ay (aB 45)):=
 (.con (.iff (.cmp cg (.loc 0 0) (.gli 2 50)) .ded .nil)
  (.con (.iff (.cmp cg (.loc 0 0) (.gli 4 51)) .ded .nil)
  (.con (.iff (.cmp cg (.loc 0 0) (.gli 6 52)) (.con (.ret (.fn 7 16 28 (J4 (n:=3) (J3 su (by decide))) (.con (.loc 1 1) .nil)))
  .nil) .nil)
  .ded)))
inductive y7 (as:List EV) (sl:List SO) (P:EV->List SO->Prop):Prop
 |mk (b:_) (h0:as=[.pv (.int 2),.pv (.bytes b)]) (h1:sl=[]) (h2:J2<=1000) (h3:P (.pv (.tup ((fl4 b).map .int))) [])
theorem AN:ac 4 352 2 y7:=ar (kFn 32 rfl) BJ aJ Bc (by
 rintro _ _ P _ ⟨b,rfl,rfl,h,hP⟩
 exact ((⟨rfl,b,rfl,rfl,h,hP⟩)))
def pf:Nm:=⟨[("size",.local),("LOG_HEAD",.globalImplicit),("LOG_SUM",.globalImplicit)],false,["size"],[],[],false⟩
theorem ye:aG pf ["size"] [some 0] [] (ao (aB 49)):=aw rfl (by rfl)
def xK:PB pf 0 (ay (aB 49)):=
 (.con (.ret (.bin cz (.bin cz (.loc 0 0) (.gli 1 55)) (.gli 2 56)))
  .nil)
inductive w9 (as:List EV) (sl:List SO) (P:EV->List SO->Prop):Prop
 |mk (k:_) (h0:as=[.pv (.int k)]) (h1:sl=[]) (h2:P (.pv (.int (k - 20 - 16))) [])
theorem jG:ac 1 359 1 w9:=ar (kFn 33 rfl) ye aJ xK (by
 rintro _ _ P _ ⟨k,rfl,rfl,hP⟩
 exact hP)
def jf:Nm:=⟨[("body",.local),("sink",.local),("part",.local),("Sink",.globalImplicit),("sum_of",.globalImplicit),("FLETCHER4",.globalImplicit)],false,["body","sink","part"],[],[],false⟩
theorem qQ:aG jf ["body"] [some 0,none,none] [] (ao (aB 50)):=aw rfl (by rfl)
def qq:PB jf 4 (ay (aB 50)):=
 (.con (.asg (.loc 1 1) (.fn 3 40 66 (bC (n:=3) (J3 f7 (by decide)) (eI 0 rfl) (d6 0 rfl)) .nil))
  (.con (.fr (.of (.fn 4 17 29 (J4 (n:=4) (J3 AN (by decide))) (.con (.gli 5 52) (.con (.loc 0 0) .nil))) (.loc 2 2)) (.con (.exp (.me 0 1 5 (some 17) (J4 (n:=4) (J3 aU (by decide))) (.loc 1 1) (.con (.loc 2 2) (.con .int .nil))))
  .nil))
  (.con (.ret (.me 0 4 8 none (J4 (n:=4) (J3 fi (by decide))) (.loc 1 1) .nil))
  .nil)))
def kM (b:List UInt8):List UInt8:=((fl4 b).map (leB 4)).flatten
inductive pE (as:List EV) (sl:List SO) (P:EV->List SO->Prop):Prop
 |mk (b:_) (h0:as=[.pv (.bytes b)]) (h1:sl=[]) (h2:J2<=1000) (h3:P (.pv (.bytes (kM b))) [])
theorem iW:ac 5 366 1 pE:=ar (kFn 34 rfl) qQ aJ qq (by
 rintro _ _ P _ ⟨b,rfl,rfl,h,hP⟩
 have hok:=AM b
 refine (bv rfl rfl rfl rfl ⟨rfl,b,rfl,rfl,h,λk st=>∃a,st=⟨[some (.pv (.bytes b)),some (.loc 0),a],[],[],dZ ((((fl4 b).take k).map (leB 4)).flatten)⟩,⟨none,rfl⟩,?_,?_⟩)
 ·intro k x _ hx hq9 K hK
  refine e1_1 hq9 λa er0=> ?_
  clear hq9
  obtain rfl:=er0
  rw[au,JR] at hx
  refine e1_2 (Jw hx) λw hk er0=> ?_
  have hm:=hok w (J01 hk)
  refine Jm▸?_
  have hlt:k<4:=(J04 hk).1
  have hl:(((fl4 b).take k).map (leB 4)).flatten.length=4*k:=by
   clear hk hm
   clear a hK hx
   cases k with
   |zero=>rfl
   |succ k=>exact lt3 (P:=λk=>(((fl4 b).take (k+1)).map (leB 4)).flatten.length=4*(k+1)) (J41 hlt) rfl rfl rfl
  refine (bv rfl rfl rfl rfl ⟨_,w,4,rfl,rfl,(ax hm.1 hm.2 (by decide) (by rw[hl];exact z10 0x14100005f84804b9848091 hlt)),hK _ ⟨some (.pv (.int w)),?_⟩⟩)
  rw[show (fl4 b).take (k+1)=(fl4 b).take k++[w] by rw[J0j,hk];rfl,Ji,J0u,show (J7E (leB 4) [w]).flatten=leB 4 w from J0e _]
  rfl
 ·intro _ hq9
  refine e1_1 hq9 λa er1=> ?_
  clear hq9
  obtain rfl:=er1
  exact (bv rfl rfl trivial rfl ⟨_,rfl,rfl,by show 16<=65536;decide,hP⟩))
def F4 (v p c:Int):PV:=.tup [.tup [.int v,.int p,.int c]]
def ptr (v p c size birth fill:Int):PV:=.inst 302 [(6,F4 v p c),(7,.int 11),(8,.int 0),(9,.int size),(10,.int size),(2,.int 0),(3,.int 0),(11,.int birth),(12,.int fill),(13,.tup [.int 0,.int 0,.int 0,.int 0]),(5,.int 0)]
def j4 (chain number many v p c birth:Int):List UInt8:=leB 4 chain++leB 3 number++leB 2 many++leB 1 v++leB 4 p++leB 2 c++leB 4 birth
def c9 (chain number:Int) (rows:List UInt8) (v p c birth:Int) (size:Nat):List UInt8:=
 j4 chain number J0R v p c birth++rows++J0E (size - 16 - (20+J0R)) 0
def bO (chain number:Int) (rows:List UInt8) (v p c birth:Int) (size:Nat):List UInt8:=c9 chain number rows v p c birth size++kM (c9 chain number rows v p c birth size)
theorem xB (chain number many v p c birth:Int):(j4 chain number many v p c birth).length=20:=rfl
theorem gJ {chain number:Int}{rows:List UInt8}{v p c birth:Int}{size:Nat}(h:20+J0R+16<=size):(c9 chain number rows v p c birth size).length=size - 16:=by
 unfold c9
 rw[JO,JO,J4L,xB]
 exact Nat.add_sub_cancel' (Nat.le_sub_of_add_le h)
def gq:Nm:=⟨[("chain",.local),("number",.local),("rows",.local),("following",.local),("size",.local),("vdev",.local),("sector",.local),("count",.local),("sink",.local),("body",.local),("Sink",.globalImplicit),("len",.globalImplicit),("padded",.globalImplicit),("LOG_SUM",.globalImplicit),("sum_octets",.globalImplicit)],false,["chain","number","rows","following","size","vdev","sector","count","sink","body"],[],[],false⟩
theorem nj:aG gq ["chain","number","rows","following","size"] [some 0,some 1,some 2,some 3,some 4,none,none,none,none,none] [] (ao (aB 51)):=aw rfl (by rfl)
def mv:PB gq 5 (ay (aB 51)):=
 (.con (.asT (.con (.loc 5 5) (.con (.loc 6 6) (.con (.loc 7 7) .nil))) (.sub (.att 3 6 (.loc 3 3)) .int))
  (.con (.asg (.loc 8 8) (.fn 10 40 66 (bC (n:=4) (J3 f7 (by decide)) (eI 0 rfl) (d6 0 rfl)) .nil))
  (.con (.exp (.me 0 1 5 (some 17) (J4 (n:=5) (J3 aU (by decide))) (.loc 8 8) (.con (.loc 0 0) (.con .int .nil))))
  (.con (.exp (.me 0 1 5 (some 17) (J4 (n:=5) (J3 aU (by decide))) (.loc 8 8) (.con (.loc 1 1) (.con .int .nil))))
  (.con (.exp (.me 0 1 5 (some 17) (J4 (n:=5) (J3 aU (by decide))) (.loc 8 8) (.con (.bf 11 cv (.con (.loc 2 2) .nil)) (.con .int .nil))))
  (.con (.exp (.me 0 1 5 (some 17) (J4 (n:=5) (J3 aU (by decide))) (.loc 8 8) (.con (.loc 5 5) (.con .int .nil))))
  (.con (.exp (.me 0 1 5 (some 17) (J4 (n:=5) (J3 aU (by decide))) (.loc 8 8) (.con (.loc 6 6) (.con .int .nil))))
  (.con (.exp (.me 0 1 5 (some 17) (J4 (n:=5) (J3 aU (by decide))) (.loc 8 8) (.con (.loc 7 7) (.con .int .nil))))
  (.con (.exp (.me 0 1 5 (some 17) (J4 (n:=5) (J3 aU (by decide))) (.loc 8 8) (.con (.att 3 11 (.loc 3 3)) (.con .int .nil))))
  (.con (.exp (.me 0 2 6 none (J4 (n:=5) (J3 mn (by decide))) (.loc 8 8) (.con (.loc 2 2) .nil)))
  (.con (.asg (.loc 9 9) (.fn 12 4 14 (J4 (n:=5) (J3 AR (by decide))) (.con (.me 0 4 8 none (J4 (n:=5) (J3 fi (by decide))) (.loc 8 8) .nil) (.con (.bin cz (.loc 4 4) (.gli 13 56)) .nil))))
  (.con (.ret (.bin aH (.loc 9 9) (.fn 14 19 31 (J4 (n:=5) (J3 iW (by decide))) (.con (.loc 9 9) .nil))))
  .nil))))))))))))
inductive lH (as:List EV) (sl:List SO) (P:EV->List SO->Prop):Prop
 |mk (chain number:Int) (rows:List UInt8) (v p c sz birth fill:Int) (size:Nat) (h0:as=[.pv (.int chain),.pv (.int number),.pv (.bytes rows),.pv (ptr v p c sz birth fill),.pv (.int size)]) (h1:sl=[]) (h2:((0<=chain/\chain<4294967296)/\(0<=number/\number<16777216)/\(0<=v/\v<256)/\(0<=p/\p<4294967296)/\(0<=c/\c<65536)/\(0<=birth/\birth<4294967296)/\20+J0R+16<=size/\size<=1000)) (h3:P (.pv (.bytes (bO chain number rows v p c birth size))) [])
theorem mm:ac 6 373 5 lH:=ar (kFn 35 rfl) nj aJ mv (by
 rintro _ _ P _ ⟨chain,number,rows,v,p,c,sz,birth,fill,size,rfl,rfl,⟨h1,h2,h3,h4,h5,h6,h7,h8⟩,hP⟩
 have hr:J0R<=1000:=by exact z20 0x1113e83f8083e83f8181102f80142f89982 h7 h8
 have r0:J0R<=65536:=JJ hr (by decide)
 have r1:(J0R:Int)<65536:=J84 (J2q hr (by decide))
 have hh:(j4 chain number J0R v p c birth++rows).length=20+J0R:=JO
 have hm:20+J0R<=bc:=JJ (J6m hr 20) (by decide)
 have hm2:(j4 chain number J0R v p c birth++rows).length<=bc:=hh.symm▸hm
 have g1:((j4 chain number J0R v p c birth++rows).length:Int)<=size - 16:=by rw[hh];exact z20 0x11102f81ea0142f89e01102f80142f89981 h7
 have g2:(size:Int) - 16<=65536:=by exact z10 0x11100005f8102f80ea03e83f8081 h8
 have e:j4 chain number J0R v p c birth++rows++J0E ((size:Int) - 16 - (((j4 chain number J0R v p c birth++rows).length:Nat):Int)).toNat 0=c9 chain number rows v p c birth size:=by
  rw[hh]
  exact JD (λk=>_++J0E k 0) (by exact z41 0x1010000001001001000010001000000010010100101000101000001001001000100000101100101010111010010011010001010011010001110110001010001001000101001010001010010100011101000101101010101004a2142f8930b102f813b472142f89e102f81eaa424 rfl fT fS fS)
 have hb:=gJ (chain:=chain) (number:=number) (v:=v) (p:=p) (c:=c) (birth:=birth) h7
 have hb1:(c9 chain number rows v p c birth size).length<=1000:=by exact z30 0x10010101010113e83f808102f812b20a3e83f8183 h8 hb fS
 have hb2:(c9 chain number rows v p c birth size).length+(kM (c9 chain number rows v p c birth size)).length<=bc:=JJ (JBN hb1 16) (by decide)
 refine (i_aa rfl rfl ⟨(cM ⟨by decide,by decide⟩ rfl rfl rfl rfl rfl ?_)⟩)
 refine (ax rfl rfl rfl ⟨[],chain,4,rfl,rfl,(ax h1.1 h1.2 (by decide) (by decide)),?_⟩)
 refine (ax rfl rfl rfl ⟨_,number,3,rfl,rfl,(ax h2.1 h2.2 (by decide) (J0G rfl)),?_⟩)
 refine (bv rfl rfl r0 rfl ⟨_,_,2,rfl,rfl,(ax (J1G _) r1 (by decide) (J0G rfl)),?_⟩)
 refine (ax rfl rfl rfl ⟨_,v,1,rfl,rfl,(ax h3.1 h3.2 (by decide) (J0G rfl)),?_⟩)
 refine (ax rfl rfl rfl ⟨_,p,4,rfl,rfl,(ax h4.1 h4.2 (by decide) (J0G rfl)),?_⟩)
 refine (ax rfl rfl rfl ⟨_,c,2,rfl,rfl,(ax h5.1 h5.2 (by decide) (J0G rfl)),?_⟩)
 refine (dM rfl rfl rfl rfl rfl ⟨_,birth,4,rfl,rfl,(ax h6.1 h6.2 (by decide) (J0G rfl)),?_⟩)
 refine (ax rfl trivial rfl ⟨_,rows,rfl,rfl,hm,?_⟩)
 refine (ax rfl trivial rfl ⟨j4 chain number J0R v p c birth++rows,rfl,rfl,hm2,rfl,_,_,rfl,rfl,⟨g1,g2⟩,?_⟩)
 rw[e]
 exact⟨rfl,_,rfl,rfl,hb1,hb2,hP⟩)
def jm:Nm:=⟨[("self",.local),("packed",.local),("summed",.local),("copies",.local),("dedup",.local)],false,["self","packed","summed","copies","dedup"],[],[],false⟩
theorem qX:aG jm ["self","packed","summed","copies","dedup"] [some 0,some 1,some 2,some 3,some 4] [] (ao (mS 33 0)):=aw rfl (by rfl)
def qy:PB jm 0 (ay (mS 33 0)):=
 (.con (.asg (.att 2 2 (.loc 0 0)) (.loc 1 1))
  (.con (.asg (.att 2 3 (.loc 0 0)) (.loc 2 2))
  (.con (.asg (.att 2 4 (.loc 0 0)) (.loc 3 3))
  (.con (.asg (.att 2 5 (.loc 0 0)) (.loc 4 4))
  .nil))))
def zi:List (Nat×PV):=[(2,.int 0),(3,.int 0),(4,.int 1),(5,.int 0)]
def pJ:jb:=λas sl P=>as=[.loc 0,.pv (.int 0),.pv (.int 0)]/\sl=[.inst 273 []]/\P (.pv .none) [.inst 273 [(2,.pv (.int 0)),(3,.pv (.int 0)),(4,.pv (.int 1)),(5,.pv (.int 0))]]
theorem f8:ac 1 270 3 pJ:=ar (dflE:=[.pv (.int 1),.pv (.int 0)]) (kFn 28 rfl) qX (λy y=>.cons (.pv (.int _ _)) (.cons (.pv (.int _ _)) .nil)) qy (by
 intro _ _ P _ hq9
 refine e0_3 hq9 λer0 er1 hP=> ?_
 clear hq9
 obtain rfl:=er0
 obtain rfl:=er1
 exact (d7 rfl rfl rfl rfl rfl rfl rfl rfl hP))
def gr:Nm:=⟨[("self",.local),("dvas",.local),("kind",.local),("level",.local),("lsize",.local),("psize",.local),("packed",.local),("summed",.local),("birth",.local),("fill",.local),("sum_now",.local),("dedup",.local)],false,["self","dvas","kind","level","lsize","psize","packed","summed","birth","fill","sum_now","dedup"],[],[],false⟩
theorem nq:aG gr ["self","dvas","kind","level","lsize","psize","packed","summed","birth","fill","sum_now","dedup"] [some 0,some 1,some 2,some 3,some 4,some 5,some 6,some 7,some 8,some 9,some 10,some 11] [] (ao (mS 34 0)):=aw rfl (by rfl)
def mw:PB gr 0 (ay (mS 34 0)):=
 (.con (.asg (.att 3 6 (.loc 0 0)) (.loc 1 1))
  (.con (.asg (.att 3 7 (.loc 0 0)) (.loc 2 2))
  (.con (.asg (.att 3 8 (.loc 0 0)) (.loc 3 3))
  (.con (.asg (.att 3 9 (.loc 0 0)) (.loc 4 4))
  (.con (.asg (.att 3 10 (.loc 0 0)) (.loc 5 5))
  (.con (.asg (.att 3 2 (.loc 0 0)) (.loc 6 6))
  (.con (.asg (.att 3 3 (.loc 0 0)) (.loc 7 7))
  (.con (.asg (.att 3 11 (.loc 0 0)) (.loc 8 8))
  (.con (.asg (.att 3 12 (.loc 0 0)) (.loc 9 9))
  (.con (.asg (.att 3 13 (.loc 0 0)) (.loc 10 10))
  (.con (.asg (.att 3 5 (.loc 0 0)) (.loc 11 11))
  .nil)))))))))))
inductive lI (as:List EV) (sl:List SO) (P:EV->List SO->Prop):Prop
 |mk (a0 a1 a2 a3 a4 a5 a6 a7 a8 a9 a10:_) (h0:as=[.loc 0,.pv a0,.pv a1,.pv a2,.pv a3,.pv a4,.pv a5,.pv a6,.pv a7,.pv a8,.pv a9,.pv a10]) (h1:sl=[.inst 302 []]) (h2:P (.pv .none) [.inst 302 [(6,.pv a0),(7,.pv a1),(8,.pv a2),(9,.pv a3),(10,.pv a4),(2,.pv a5),(3,.pv a6),(11,.pv a7),(12,.pv a8),(13,.pv a9),(5,.pv a10)]])
theorem f9:ac 1 292 12 lI:=ar (kFn 29 rfl) nq aJ mw (by
 rintro _ _ P _ ⟨a0,a1,a2,a3,a4,a5,a6,a7,a8,a9,a10,rfl,rfl,hP⟩
 exact (cb rfl rfl rfl rfl rfl rfl rfl rfl rfl rfl rfl rfl rfl rfl rfl rfl (cM rfl rfl rfl rfl rfl rfl hP)))
def g0:Nm:=⟨[("place",.local),("size",.local),("birth",.local),("chain",.local),("Pointer",.globalImplicit),("LOG",.globalImplicit),("PLAIN",.globalImplicit),("OFF",.globalImplicit)],false,["place","size","birth","chain"],[],[],false⟩
theorem oC:aG g0 ["place","size","birth","chain"] [some 0,some 1,some 2,some 3] [] (ao (aB 54)):=aw rfl (by rfl)
def n7:PB g0 2 (ay (aB 54)):=
 (.con (.ret (.fz (.fn 4 43 69 (bC (n:=1) (J3 f9 (by decide)) (eI 3 rfl) (d6 11 rfl)) (.con (.tup (.con (.loc 0 0) .nil)) (.con (.gli 5 48) (.con .int (.con (.loc 1 1) (.con (.loc 1 1) (.con (.gli 6 49) (.con (.gli 7 50) (.con (.loc 2 2) (.con (.loc 3 3) (.con (.tup (.con .int (.con .int (.con .int (.con .int .nil))))) (.con .int .nil))))))))))))))
  .nil)
inductive nF (as:List EV) (sl:List SO) (P:EV->List SO->Prop):Prop
 |mk (v p c size birth chain:_) (h0:as=[.pv (.tup [.int v,.int p,.int c]),.pv (.int size),.pv (.int birth),.pv (.int chain)]) (h1:sl=[]) (h2:P (.pv (ptr v p c size birth chain)) [])
theorem nW:ac 3 444 4 nF:=ar (kFn 44 rfl) oC aJ n7 (by
 rintro _ _ P _ ⟨v,p,c,size,birth,chain,rfl,rfl,hP⟩
 exact (ax (by simp) (by simp) rfl ⟨_,_,_,_,_,_,_,_,_,_,_,rfl,rfl,rfl,hP⟩))
abbrev be:=List (List Int×PV)
def bI (blocks gone:be) (next written:Int):List SO:=[.inst 543 [(21,.pv (.int 16)),(22,.loc 1),(23,.loc 2),(24,.pv (.int next)),(19,.pv (.int written))],.tdict blocks,.tdict gone]
def kE:Nm:=⟨[("self",.local),("sector",.local)],false,["self","sector"],[],[],false⟩
theorem tB:aG kE ["self","sector"] [some 0,some 1] [] (ao (mS 61 0)):=aw rfl (by rfl)
def sP:PB kE 0 (ay (mS 61 0)):=
 (.con (.asg (.att 5 21 (.loc 0 0)) (.loc 1 1))
  (.con (.asg (.att 5 22 (.loc 0 0)) .di0)
  (.con (.asg (.att 5 23 (.loc 0 0)) .di0)
  (.con (.asg (.att 5 24 (.loc 0 0)) .int)
  (.con (.asg (.att 5 19 (.loc 0 0)) .int)
  .nil)))))
def rI:jb:=λas sl P=>as=[.loc 0]/\sl=[.inst 543 []]/\P (.pv .none) (bI [] [] 1 0)
theorem nY:ac 1 492 1 rI:=ar (dflE:=[.pv (.int 16)]) (kFn 51 rfl) tB (λy y=>.cons (.pv (.int _ _)) .nil) sP (by
 intro _ _ P _ hq9
 refine e0_3 hq9 λer0 er1 hP=> ?_
 clear hq9
 obtain rfl:=er0
 obtain rfl:=er1
 exact (fh rfl rfl rfl rfl rfl rfl rfl rfl rfl rfl hP))
theorem Cm {r:Bool}{i:Nat}{st:St}{P:Bool->St->Prop}{v p c:Int}{es:be}{b:Bool}(h1:nth J5 i=some (.tdict es)) (h2:((aE [v,p,c] es).isSome==r)=b) (h:P b st):Cn r (.pv (.tup [.int v,.int p,.int c])) (.loc i) st P:=by
 show aj (cU wF (.loc i) st) _
 rw[df h1]
 show P ((aE [v,p,c] es).isSome==r) st
 rw[h2];exact h
def kA:Nm:=⟨[("self",.local),("pointer",.local),("dva",.local),("Misused",.globalImplicit)],false,["self","pointer","dva"],[],[],false⟩
theorem tw:aG kA ["self","pointer"] [some 0,some 1,none] [] (ao (mS 61 2)):=aw rfl (by rfl)
def sM:PB kA 0 (ay (mS 61 2)):=
 (.con (.fr (.of (.att 3 6 (.loc 1 1)) (.loc 2 2)) (.con (.iff (.cmp xj (.loc 2 2) (.att 5 22 (.loc 0 0))) .ded .nil)
  .nil))
  .nil)
inductive rF (as:List EV) (sl:List SO) (P:EV->List SO->Prop):Prop
 |mk (blocks gone next written v p c size birth fill:_) (h0:as=[.loc 0,.pv (ptr v p c size birth fill)]) (h1:sl=bI blocks gone next written) (h2:(aE [v,p,c] blocks).isSome=true) (h3:P (.pv .none) (bI blocks gone next written))
theorem en:ac 1 505 2 rF:=ar (kFn 54 rfl) tw aJ sM (by
 rintro _ _ P _ ⟨blocks,gone,next,written,v,p,c,size,birth,fill,rfl,rfl,h,hP⟩
 apply l9 (x:=[.tup [.int v,.int p,.int c]]) (A:=⟨[some (.loc 0),some (.pv (ptr v p c size birth fill)),some (.pv (.tup [.int v,.int p,.int c]))],[],[],bI blocks gone next written⟩)
 case hvi=>exact λP' h'=>(i_aa rfl rfl h')
 case hk=>exact rfl
 case turn=>
  intro C hC
  exact (i_aa rfl rfl ⟨Cm (b:=false) rfl (by rw[h];rfl) (hC)⟩)
 case hA=>exact rfl
 case fin=>exact hP)
theorem xg {i:Nat}{st:St}{P:EV->St->Prop}{v p c:Int}{es:be}{q:PV}(h1:nth J5 i=some (.tdict es)) (h2:aE [v,p,c] es=some q) (h:P (.pv q) st):pN (.loc i) (.pv (.tup [.int v,.int p,.int c])) st P:=by
 show bj ((nth J5 i).bind pq) _ (aj (cU wF (.loc i) st) λes=>aj (aE [v,p,c] es) λp=>P (.pv p) st)
 rw[df h1,h1]
 show aj (aE [v,p,c] es) _
 rw[h2];exact h
theorem iL {i:Nat}{st:St}{P:Unit->St->Prop}{v p c:Int}{es:be}{q:PV}(h1:nth J5 i=some (.tdict es)) (h2:J1H<=65536) (h:P () { st with sl:=upd J5 i (.tdict (aY [v,p,c] q es)) }):zD (.loc i) (.pv (.tup [.int v,.int p,.int c])) (.pv q) st P:=by
 show aj (cU wF (.loc i) st) _
 rw[df h1];exact⟨h2,h⟩
theorem zH {i:Nat}{st:St}{P:EV->St->Prop}{v p c:Int}{es:be}{q:PV}(h1:nth J5 i=some (.tdict es)) (h2:J1H<=65536) (h3:aE [v,p,c] es=some q) (h:P (.pv q) { st with sl:=upd J5 i (.tdict (gM [v,p,c] es)) }):Dl [.loc i,.pv (.tup [.int v,.int p,.int c])] st P:=by
 show aj (cU wF (.loc i) st) _
 rw[df h1]
 show aj (aE [v,p,c] es) _
 rw[h3];exact⟨h2,h⟩
def kC:Nm:=⟨[("self",.local),("pointer",.local),("octets",.local),("len",.globalImplicit),("Corrupt",.globalImplicit)],false,["self","pointer","octets"],[],[],false⟩
theorem tz:aG kC ["self","pointer"] [some 0,some 1,none] [] (ao (mS 61 3)):=aw rfl (by rfl)
def sN:PB kC 1 (ay (mS 61 3)):=
 (.con (.exp (.me 5 21 48 none (J4 (n:=1) (J3 en (by decide))) (.loc 0 0) (.con (.loc 1 1) .nil)))
  (.con (.asg (.loc 2 2) (.sub (.att 5 22 (.loc 0 0)) (.sub (.att 3 6 (.loc 1 1)) .int)))
  (.con (.iff (.cmp eH (.bf 3 cv (.con (.loc 2 2) .nil)) (.att 3 9 (.loc 1 1))) .ded .nil)
  (.con (.ret (.loc 2 2))
  .nil))))
inductive rG (as:List EV) (sl:List SO) (P:EV->List SO->Prop):Prop
 |mk (blocks gone next written v p c birth fill b:_) (h0:as=[.loc 0,.pv (ptr v p c ((b:List UInt8).length:Nat) birth fill)]) (h1:sl=bI blocks gone next written) (h2:(aE [v,p,c] blocks=some (.bytes b)/\J2<=1000)) (h3:P (.pv (.bytes b)) (bI blocks gone next written))
theorem et:ac 2 512 2 rG:=ar (kFn 55 rfl) tz aJ sN (by
 rintro _ _ P _ ⟨blocks,gone,next,written,v,p,c,birth,fill,b,rfl,rfl,⟨h,h2⟩,hP⟩
 refine (ax rfl trivial rfl ⟨_,_,_,_,v,p,c,_,birth,fill,rfl,rfl,by rw[h];rfl,(bv rfl rfl rfl rfl ⟨⟨by decide,by decide⟩,⟨xg rfl h ?_⟩⟩)⟩)
 exact (ax (by omega) rfl rfl (bu (by simp) hP)))
def kG:Nm:=⟨[("self",.local),("pointer",.local),("txg",.local),("dva",.local)],false,["self","pointer","txg","dva"],[],[],false⟩
theorem tD:aG kG ["self","pointer","txg"] [some 0,some 1,some 2,none] [] (ao (mS 61 4)):=aw rfl (by rfl)
def sR:PB kG 1 (ay (mS 61 4)):=
 (.con (.exp (.me 5 21 48 none (J4 (n:=1) (J3 en (by decide))) (.loc 0 0) (.con (.loc 1 1) .nil)))
  (.con (.fr (.of (.att 3 6 (.loc 1 1)) (.loc 3 3)) (.con (.asg (.sub (.att 5 23 (.loc 0 0)) (.loc 3 3)) (.loc 2 2))
  (.con (.exp (.bm FL (.att 5 22 (.loc 0 0)) (.con (.loc 3 3) .nil)))
  .nil)))
  .nil))
inductive rK (as:List EV) (sl:List SO) (P:EV->List SO->Prop):Prop
 |mk (blocks gone next written v p c size birth fill txg q:_) (h0:as=[.loc 0,.pv (ptr v p c size birth fill),.pv (.int txg)]) (h1:sl=bI blocks gone next written) (h2:(aE [v,p,c] blocks=some q/\J1Q<=65536/\J6h<=65536)) (h3:P (.pv .none) (bI (gM [v,p,c] blocks) (aY [v,p,c] (.int txg) gone) next written))
theorem sw:ac 2 519 3 rK:=ar (kFn 56 rfl) tD aJ sR (by
 rintro _ _ P _ ⟨blocks,gone,next,written,v,p,c,size,birth,fill,txg,q,rfl,rfl,⟨h,h2,h3⟩,hP⟩
 refine (ax rfl trivial rfl ⟨_,_,_,_,v,p,c,_,birth,fill,rfl,rfl,by rw[h];rfl,?_⟩)
 apply l9 (x:=[.tup [.int v,.int p,.int c]]) (A:=⟨[some (.loc 0),some (.pv (ptr v p c size birth fill)),some (.pv (.int txg)),some (.pv (.tup [.int v,.int p,.int c]))],[],[],bI (gM [v,p,c] blocks) (aY [v,p,c] (.int txg) gone) next written⟩)
 case hvi=>exact λP' h'=>(i_aa rfl rfl h')
 case hk=>exact rfl
 case turn=>
  intro C hC
  refine (i_aa rfl rfl ⟨iL rfl h3 ?_⟩)
  refine (ax rfl rfl rfl ⟨zH rfl h2 h ?_⟩)
  exact hC
 case hA=>exact rfl
 case fin=>exact hP)
def kF:Nm:=⟨[("self",.local),("pointer",.local),("octets",.local),("dva",.local),("bytes",.globalImplicit)],false,["self","pointer","octets","dva"],[],[],false⟩
theorem tC:aG kF ["self","pointer","octets"] [some 0,some 1,some 2,none] [] (ao (mS 61 7)):=aw rfl (by rfl)
def sQ:PB kF 1 (ay (mS 61 7)):=
 (.con (.exp (.me 5 21 48 none (J4 (n:=1) (J3 en (by decide))) (.loc 0 0) (.con (.loc 1 1) .nil)))
  (.con (.fr (.of (.att 3 6 (.loc 1 1)) (.loc 3 3)) (.con (.asg (.sub (.att 5 22 (.loc 0 0)) (.loc 3 3)) (.bf 4 dG (.con (.loc 2 2) .nil)))
  .nil))
  .nil))
inductive rJ (as:List EV) (sl:List SO) (P:EV->List SO->Prop):Prop
 |mk (blocks gone next written v p c size birth fill b:_) (h0:as=[.loc 0,.pv (ptr v p c size birth fill),.pv (.bytes b)]) (h1:sl=bI blocks gone next written) (h2:((aE [v,p,c] blocks).isSome=true/\J1Q<=65536)) (h3:P (.pv .none) (bI (aY [v,p,c] (.bytes b) blocks) gone next written))
theorem eu:ac 2 540 3 rJ:=ar (kFn 58 rfl) tC aJ sQ (by
 rintro _ _ P _ ⟨blocks,gone,next,written,v,p,c,size,birth,fill,b,rfl,rfl,⟨h,h2⟩,hP⟩
 refine (ax rfl trivial rfl ⟨_,_,_,_,v,p,c,_,birth,fill,rfl,rfl,h,?_⟩)
 apply l9 (x:=[.tup [.int v,.int p,.int c]]) (A:=⟨[some (.loc 0),some (.pv (ptr v p c size birth fill)),some (.pv (.bytes b)),some (.pv (.tup [.int v,.int p,.int c]))],[],[],bI (aY [v,p,c] (.bytes b) blocks) gone next written⟩)
 case hvi=>exact λP' h'=>(i_aa rfl rfl h')
 case hk=>exact rfl
 case turn=>
  intro C hC
  exact (i_aa rfl rfl ⟨iL rfl h2 hC⟩)
 case hA=>exact rfl
 case fin=>exact hP)
def kD:Nm:=⟨[("self",.local),("sorted",.globalImplicit),("list",.globalImplicit)],false,["self"],[],[],false⟩
theorem tA:aG kD ["self"] [some 0] [] (ao (mS 61 5)):=aw rfl (by rfl)
def sO:PB kD 0 (ay (mS 61 5)):=
 (.con (.ret (.bf 1 C9 (.con (.bf 2 Ge (.con (.att 5 22 (.loc 0 0)) .nil)) .nil)))
  .nil)
inductive rH (as:List EV) (sl:List SO) (P:EV->List SO->Prop):Prop
 |mk (blocks gone next written ts:_) (h0:as=[.loc 0]) (h1:sl=bI blocks gone next written) (h2:(J9Z (·.1)=J6w (λp:Int×Int=>[0,p.1,p.2])/\jQ ts/\1<=J1w/\J1w<64)) (h3:P (.pv (.lst (J6w bZ))) (bI blocks gone next written))
theorem ym {blocks:be}{ts:List (Int×Int)}(h:J9Z (·.1)=J6w (λp:Int×Int=>[0,p.1,p.2])):ly blocks=J6w bZ:=by
 unfold ly
 rw[show J9Z (λp=>JEX (p.1.map .int))=(J9Z (·.1)).map λk=>JEX (k.map .int) by rw[Js];rfl,h,Js]
 rfl
theorem kc:ac 1 526 1 rH:=ar (kFn 57 rfl) tA aJ sO (by
 rintro _ _ P _ ⟨blocks,gone,next,written,ts,rfl,rfl,⟨h,h2,h3,h4⟩,hP⟩
 have hl:J1Q=J1w:=by rw[<- J6 (f:=(·.1)) (as:=blocks),h,J6]
 refine (ax rfl rfl (by exact z20 0x1011100005f80810a402f8192 h4 hl) ?_)
 rw[ym h]
 exact⟨(az ts (ax rfl h2 h3 h4) hP)⟩)
def jn:Nm:=⟨[("self",.cell),("octets",.local),("kind",.local),("level",.local),("rules",.local),("txg",.local),("fill",.local),("former",.local),("count",.cell),("dvas",.local),("dva",.local),("size",.local),("bytes",.globalImplicit),("len",.globalImplicit),("tuple",.globalImplicit),("range",.globalImplicit),("Pointer",.globalImplicit),("PLAIN",.globalImplicit),("OFF",.globalImplicit)],false,["octets","kind","level","rules","txg","fill","former","dvas","dva","size"],["count","self"],[],false⟩
def kX:Nm:=⟨[(".0",.local),("copy",.local),("count",.cell),("self",.cell)],true,["octets","kind","level","rules","txg","fill","former","dvas","dva","size"],["count","self"],[".0","copy"],false⟩
theorem jq:aG jn ["self","octets","kind","level","rules","txg","fill","former"] [some 1,some 2,some 3,some 4,some 5,some 6,some 7,none,none,none] [none,some 0] (ao (mS 61 1)):=aw rfl (by rfl)
def iZ:PB jn 2 (ay (mS 61 1)):=
 (.con (.asg (.att 5 19 (.cel 0 1)) (.bin aH (.att 5 19 (.cel 0 1)) .int))
  (.con (.asN (.con (.loc 1 0) (.con (.cel 8 0) .nil)) (.con (.bf 12 dG (.con (.loc 1 0) .nil)) (.con (.bin uo (.bin cz (.bin aH (.bf 13 cv (.con (.loc 1 0) .nil)) (.att 5 21 (.cel 0 1))) .int) (.att 5 21 (.cel 0 1))) .nil)))
  (.con (.iff (.an (.cmp lV (.loc 7 6) .non) (.an (.cmp cg (.att 3 11 (.loc 7 6)) (.loc 5 4)) (.an (.cmp cg (.att 3 10 (.loc 7 6)) (.bf 13 cv (.con (.loc 1 0) .nil))) .an0))) (.con (.asg (.loc 9 7) (.att 3 6 (.loc 7 6)))
  (.con (.exp (.me 5 21 48 none (J4 (n:=2) (J3 en (by decide))) (.cel 0 1) (.con (.loc 7 6) .nil)))
  .nil)) (.con (.asg (.loc 9 7) (.bf 14 Bw (.con (.com (Γc:=kX) 2 (.of (.bf 15 iv (.con (.att 2 4 (.loc 4 3)) .nil)) (.clo 1 1)) .nil (.tup (.con .int (.con (.bin aH (.att 5 24 (.cel 3 1)) (.bin dE (.clo 1 1) (.cel 2 0))) (.con (.cel 2 0) .nil)))) (aV rfl (by rfl))) .nil)))
  (.con (.asg (.att 5 24 (.cel 0 1)) (.bin aH (.att 5 24 (.cel 0 1)) (.bin dE (.att 2 4 (.loc 4 3)) (.cel 8 0))))
  .nil)))
  (.con (.fr (.of (.loc 9 7) (.loc 10 8)) (.con (.asg (.sub (.att 5 22 (.cel 0 1)) (.loc 10 8)) (.loc 1 0))
  .nil))
  (.con (.asg (.loc 11 9) (.bf 13 cv (.con (.loc 1 0) .nil)))
  (.con (.ret (.fz (.fn 16 43 69 (bC (n:=1) (J3 f9 (by decide)) (eI 3 rfl) (d6 11 rfl)) (.con (.loc 9 7) (.con (.loc 2 1) (.con (.loc 3 2) (.con (.loc 11 9) (.con (.loc 11 9) (.con (.gli 17 49) (.con (.gli 18 50) (.con (.loc 5 4) (.con (.loc 6 5) (.con (.tup (.con .int (.con .int (.con .int (.con .int .nil))))) (.con .int .nil))))))))))))))
  .nil))))))
def aq (n:Nat):Int:=JAD ((n:Int)+16 - 1) 16
inductive lK (as:List EV) (sl:List SO) (P:EV->List SO->Prop):Prop
 |mk (blocks gone:be) (next written:Int) (b:List UInt8) (txg fill:Int) (h0:as=[.loc 0,.pv (.bytes b),.pv (.int 11),.pv (.int 0),.pv (.inst 273 zi),.pv (.int txg),.pv (.int fill)]) (h1:sl=bI blocks gone next written) (h2:(J2<=1000/\J1Q<=65536/\J8T<100000)) (h3:P (.pv (ptr 0 next (aq J2) J2 txg fill)) (bI (aY [0,next,aq J2] (.bytes b) blocks) gone (next+aq J2) (written+1)))
theorem mo:ac 3 498 7 lK:=ar (dflE:=[.pv .none]) (kFn 53 rfl) jq (λy y=>.cons (.pv .none) .nil) iZ (by
 rintro _ _ P _ ⟨blocks,gone,next,written,b,txg,fill,rfl,rfl,⟨h,h2,h3⟩,hP⟩
 refine (eB rfl rfl rfl rfl (by omega) rfl rfl rfl rfl ⟨by decide,by decide⟩ rfl ((?_)))
 apply dz c2 (none,none) (g:=λx=>some (match x with |[.int i]=>.tup [.int 0,.int (next+i*aq J2),.int (aq J2)]|_=>.none))
 case hvi=>exact λP' h'=>(i_aa rfl rfl (oO (m:=1) (by decide) h'))
 case hl=>exact (by decide:1<=bc)
 case hk=>exact λy=>sj (m:=1) (by decide) _
 case turn=>
  rintro x hx ⟨a1,a2⟩ R S hR _
  obtain rfl:x=[.int 0]:=by
   have hx:x∈[[J3G ((0:Nat):Int)]]:=hx
   rw[List.mem_singleton] at hx;exact hx
  exact (bv rfl rfl (by decide) (by simp) (hR _ (_,_) rfl))
 case fin=>
  generalize hL:J9K _ _=L
  obtain rfl:[.tup [.int 0,.int next,.int (aq J2)]]=L:=by
   refine JFt ?_ hL
   show _=[JEX [.int 0,.int (next+((0:Nat):Int)*aq J2),_]]
   refine (show ((0:Nat):Int)*aq J2=0 from JB0 _).symm▸?_
   rw[J4M]
  refine (d7 (by simp) rfl rfl rfl rfl (by decide) rfl rfl ?_)
  rw[J5V]
  apply l9 (x:=[.tup [.int 0,.int next,.int (aq J2)]]) (A:=⟨[_,_,_,_,_,_,_,some (.pv (.tup [.tup [.int 0,.int next,.int (aq J2)]])),_,_],_,[],bI (aY [0,next,aq J2] (.bytes b) blocks) gone (next+aq J2) (written+1)⟩)
  case hvi=>exact λP' h'=>h'
  case hk=>exact rfl
  case turn=>
   intro C hC
   exact (i_aa rfl rfl ⟨iL rfl h2 hC⟩)
  case hA=>exact rfl
  case fin=>exact (ax (by omega) (by decide) rfl ⟨_,_,_,_,_,_,_,_,_,_,_,rfl,rfl,rfl,hP⟩))
inductive pK (as:List EV) (sl:List SO) (P:EV->List SO->Prop):Prop
 |mk (blocks gone:be) (next written:Int) (b:List UInt8) (txg fill v p c fill2:Int) (h0:as=[.loc 0,.pv (.bytes b),.pv (.int 11),.pv (.int 0),.pv (.inst 273 zi),.pv (.int txg),.pv (.int fill),.pv (ptr v p c J2 txg fill2)]) (h1:sl=bI blocks gone next written) (h2:(J2<=1000/\J1Q<=65536/\(aE [v,p,c] blocks).isSome=true)) (h3:P (.pv (ptr v p c J2 txg fill)) (bI (aY [v,p,c] (.bytes b) blocks) gone next (written+1)))
theorem qm:ac 3 498 8 pK:=ar (kFn 52 rfl) jq aJ iZ (by
 rintro _ _ P _ ⟨blocks,gone,next,written,b,txg,fill,v,p,c,fill2,rfl,rfl,⟨h,h2,h3⟩,hP⟩
 refine (eB rfl rfl rfl rfl (by omega) rfl rfl rfl rfl ⟨by decide,by decide⟩ rfl ((i_aa rfl rfl (cw (by simp) (ax rfl rfl (by omega) (cw (by simp) (?_)))))))
 refine (dM rfl rfl rfl trivial rfl ⟨_,_,_,_,v,p,c,_,txg,fill2,rfl,rfl,h3,?_⟩)
 apply l9 (x:=[.tup [.int v,.int p,.int c]]) (A:=⟨[_,_,_,_,_,_,_,some (.pv (F4 v p c)),some (.pv (.tup [.int v,.int p,.int c])),_],_,[],bI (aY [v,p,c] (.bytes b) blocks) gone next (written+1)⟩)
 case hvi=>exact λP' h'=>h'
 case hk=>exact rfl
 case turn=>
  intro C hC
  exact (i_aa rfl rfl ⟨iL rfl h2 hC⟩)
 case hA=>exact rfl
 case fin=>exact (ax (by omega) (by decide) rfl ⟨_,_,_,_,_,_,_,_,_,_,_,rfl,rfl,rfl,hP⟩))
def Ah (size:Nat) (chain number seq:Int) (tl:List (Nat×EV)) (written:List PV) (blocks gone:be) (next wr:Int):List SO:=
 [.inst 433 ((14,.loc 1)::(15,.pv (.int size))::(16,.pv (.int chain))::(17,.pv (.int number))::(18,.pv (.int seq))::(19,.loc 2)::tl),
 .inst 543 [(21,.pv (.int 16)),(22,.loc 3),(23,.loc 4),(24,.pv (.int next)),(19,.pv (.int wr))],.list written,.tdict blocks,.tdict gone]
abbrev kP (size:Nat) (chain number seq:Int) (ahead:PV) (written:List PV) (blocks gone:be) (next wr:Int):List SO:=Ah size chain number seq [(20,.pv ahead)] written blocks gone next wr
def aQ (n:Nat):List UInt8:=J0E n 0
def dc:Nm:=⟨[("self",.local),("txg",.local),("bytes",.globalImplicit),("LOG",.globalImplicit),("Rules",.globalImplicit),("PLAIN",.globalImplicit),("OFF",.globalImplicit)],false,["self","txg"],[],[],false⟩
theorem fO:aG dc ["self","txg"] [some 0,some 1] [] (ao (mS 52 1)):=aw rfl (by rfl)
def fH:PB dc 3 (ay (mS 52 1)):=
 (.con (.ret (.me 5 20 47 (some 33) (J4 (n:=3) (J3 mo (by decide))) (.att 4 14 (.loc 0 0)) (.con (.bf 2 dG (.con (.att 4 15 (.loc 0 0)) .nil)) (.con (.gli 3 48) (.con .int (.con (.fz (.fn 4 42 68 (bC (n:=2) (J3 f8 (by decide)) (eI 2 rfl) (d6 10 rfl)) (.con (.gli 5 49) (.con (.gli 6 50) .nil)))) (.con (.loc 1 1) (.con (.att 4 16 (.loc 0 0)) .nil))))))))
  .nil)
inductive rC (as:List EV) (sl:List SO) (P:EV->List SO->Prop):Prop
 |mk (size:Nat) (chain number seq:Int) (tl:List (Nat×EV)) (written:List PV) (blocks gone:be) (next wr txg:Int) (h0:as=[.loc 0,.pv (.int txg)]) (h1:sl=Ah size chain number seq tl written blocks gone next wr) (h2:((tl=[]∨∃a,tl=[(20,.pv a)])/\size<=1000/\J1Q<=65536/\J8T<100000)) (h3:P (.pv (ptr 0 next (aq size) size txg chain)) (Ah size chain number seq tl written (aY [0,next,aq size] (.bytes (aQ size)) blocks) gone (next+aq size) (wr+1)))
theorem cr:ac 4 395 2 rC:=ar (kFn 38 rfl) fO aJ fH (by
 rintro _ _ P _ ⟨size,chain,number,seq,tl,written,blocks,gone,next,wr,txg,rfl,rfl,⟨h1,h2,h3,h4⟩,hP⟩
 have hP':=hP
 have e:(J0E (JB1 (size:Int)) (0:UInt8)).length=size:=by simp
 clear hP
 rcases h1 with rfl|⟨a,rfl⟩
 ·refine (eK rfl rfl rfl rfl rfl rfl ⟨by omega,by omega⟩ rfl rfl rfl rfl rfl rfl rfl ⟨_,_,_,_,_,txg,chain,rfl,rfl,(i_aa (by rw[e];exact h2) h3 h4),?_⟩)
  rw[e];exact hP'
 ·refine (eK rfl rfl rfl rfl rfl rfl ⟨by omega,by omega⟩ rfl rfl rfl rfl rfl rfl rfl ⟨_,_,_,_,_,txg,chain,rfl,rfl,(i_aa (by rw[e];exact h2) h3 h4),?_⟩)
  rw[e];exact hP')
def eX:Nm:=⟨[("self",.local)],false,["self"],[],[],false⟩
theorem jX:aG eX ["self"] [some 0] [] (ao (mS 52 2)):=aw rfl (by rfl)
def jL:PB eX 0 (ay (mS 52 2)):=
 (.con (.ret (.ife (.cmp cg (.att 4 19 (.loc 0 0)) (.lst .nil)) (.att 4 20 (.loc 0 0)) (.sub (.att 4 19 (.loc 0 0)) .int)))
  .nil)
inductive D0 (as:List EV) (sl:List SO) (P:EV->List SO->Prop):Prop
 |mk (size:Nat) (chain number seq:Int) (ahead:PV) (written:List PV) (blocks gone:be) (next wr:Int) (h0:as=[.loc 0]) (h1:sl=kP size chain number seq ahead written blocks gone next wr) (h2:(JEv<=1000/\uj (.pv ahead)=true)) (h3:P (.pv (written.headD ahead)) (kP size chain number seq ahead written blocks gone next wr))
theorem dl:ac 1 402 1 D0:=ar (kFn 39 rfl) jX aJ jL (by
 rintro _ _ P _ ⟨size,chain,number,seq,ahead,written,blocks,gone,next,wr,rfl,rfl,⟨h,hp⟩,hP⟩
 cases written with
 |nil=>exact (bv rfl rfl (by simp) (λz=>absurd rfl z) (λy=>(i_aa rfl rfl ((i_aa rfl hp hP)))))
 |cons w r=>exact (bv rfl rfl (by simp) (λy=>(i_aa rfl rfl ⟨⟨by decide,by decide⟩,hP⟩)) (λz=>by simp at z)))
def db:Nm:=⟨[("self",.local),("rows",.local),("txg",.local),("following",.local),("octets",.local),("block_octets",.globalImplicit),("LOG",.globalImplicit),("Rules",.globalImplicit),("PLAIN",.globalImplicit),("OFF",.globalImplicit)],false,["self","rows","txg","following","octets"],[],[],false⟩
theorem fK:aG db ["self","rows","txg"] [some 0,some 1,some 2,none,none] [] (ao (mS 52 3)):=aw rfl (by rfl)
def fG:PB db 6 (ay (mS 52 3)):=
 (.con (.asg (.loc 3 3) (.me 4 13 34 none (J4 (n:=6) (J3 cr (by decide))) (.loc 0 0) (.con (.loc 2 2) .nil)))
  (.con (.asg (.loc 4 4) (.fn 5 20 32 (J4 (n:=6) (J3 mm (by decide))) (.con (.att 4 16 (.loc 0 0)) (.con (.att 4 17 (.loc 0 0)) (.con (.loc 1 1) (.con (.loc 3 3) (.con (.att 4 15 (.loc 0 0)) .nil)))))))
  (.con (.exp (.me 5 20 47 (some 33) (J4 (n:=6) (J3 qm (by decide))) (.att 4 14 (.loc 0 0)) (.con (.loc 4 4) (.con (.gli 6 48) (.con .int (.con (.fz (.fn 7 42 68 (bC (n:=5) (J3 f8 (by decide)) (eI 2 rfl) (d6 10 rfl)) (.con (.gli 8 49) (.con (.gli 9 50) .nil)))) (.con (.att 3 11 (.att 4 20 (.loc 0 0))) (.con (.att 4 16 (.loc 0 0)) (.con (.att 4 20 (.loc 0 0)) .nil)))))))))
  (.con (.exp (.bm k9 (.att 4 19 (.loc 0 0)) (.con (.att 4 20 (.loc 0 0)) .nil)))
  (.con (.asg (.att 4 20 (.loc 0 0)) (.loc 3 3))
  (.con (.asg (.att 4 17 (.loc 0 0)) (.bin aH (.att 4 17 (.loc 0 0)) .int))
  .nil))))))
inductive rx (as:List EV) (sl:List SO) (P:EV->List SO->Prop):Prop
 |mk (size:Nat) (chain number seq:Int) (v p c birth:Int) (written:List PV) (blocks gone:be) (next wr txg:Int) (rows:List UInt8) (h0:as=[.loc 0,.pv (.bytes rows),.pv (.int txg)]) (h1:sl=kP size chain number seq (ptr v p c size birth chain) written blocks gone next wr) (h2:((0<=chain/\chain<4294967296)/\(0<=number/\number<16777216)/\(0<=next/\next<100000)/\(0<=txg/\txg<4294967296)/\20+J0R+16<=size/\size<=1000/\J1Q<=60000/\JEv<=1000/\(aE [v,p,c] blocks).isSome=true)) (h3:P (.pv .none) (kP size chain (number+1) seq (ptr 0 next (aq size) size txg chain) (written++[ptr v p c size birth chain]) (aY [v,p,c] (.bytes (bO chain number rows 0 next (aq size) txg size)) (aY [0,next,aq size] (.bytes (aQ size)) blocks)) gone (next+aq size) (wr+1+1)))
theorem u4 {n:Nat}(h:n<=1000):0<=aq n/\aq n<=64:=by
 unfold aq
 rw[J0b _ (by decide)];exact z12 0x102f01011102f10100402f8101080418102f80e9a102f21d3e83f8082 h fZ
theorem dv (k:List Int) (p:PV) (es:be):(aY k p es).length<=J1H+1:=by
 induction es with
 |nil=>exact Jb _
 |cons x r ih=>
  obtain⟨j,q⟩:=x
  rw[e7]
  cases bY j k with
  |true=>exact J4n _
  |false=>exact J2e ih
theorem dk (k:List Int) (es:be):(aE k es).isSome=true->∀j q,(aE k (aY j q es)).isSome=true:=by
 induction es with
 |nil=>exact λh=>nomatch h
 |cons x r ih=>
  obtain⟨i,x⟩:=x
  intro h j q
  rw[dO] at h
  rw[e7]
  cases bY i j with
  |true=>
   show (aE k ((i,q)::r)).isSome=true
   rw[dO]
   cases hk:bY i k with
   |true=>rfl
   |false=>rw[hk] at h;exact h
  |false=>
   show (aE k ((i,x)::aY j q r)).isSome=true
   rw[dO]
   cases hk:bY i k with
   |true=>rfl
   |false=>rw[hk] at h;exact ih h j q
theorem cR {chain number:Int}{rows:List UInt8}{v p c birth:Int}{size:Nat}(h:20+J0R+16<=size):(bO chain number rows v p c birth size).length=size:=by
 unfold bO
 rewrite [JO,gJ h]
 exact JCM (JJ (JEb _ _) h)
theorem c7:ac 7 409 3 rx:=ar (kFn 40 rfl) fK aJ fG (by
 rintro _ _ P _ ⟨size,chain,number,seq,v,p,c,birth,written,blocks,gone,next,wr,txg,rows,rfl,rfl,⟨h1,h2,h3,h4,h5,h6,h7,h8,h9⟩,hP⟩
 have hc:=u4 h6
 refine (ax rfl trivial rfl ⟨size,chain,number,seq,_,written,blocks,gone,next,wr,txg,rfl,rfl,(ax (.inr ⟨_,rfl⟩) h6 (by omega) (by exact z11 0x10001100110186a05f80910f186a05f81110803 h3.1 h3.2 fA)),?_⟩)
 refine (dR rfl rfl rfl rfl rfl rfl rfl ⟨chain,number,rows,0,next,aq size,size,txg,chain,size,rfl,rfl,(dR h1 h2 (by decide) (by exact z01 0x1101011000000009f80100804186a05f80100802 h3.1 h3.2) (by exact z01 0x110101100005f80100804402f80000802 hc.1 hc.2) h4 h5 h6),?_⟩)
 have hs:∀(k:List Int) (es:be),(aE k es).isSome=true->∀j q,(aE k (aY j q es)).isSome=true:=dk
 have hlb:(bO chain number rows 0 next (aq size) txg size).length=size:=cR h5
 refine (cb rfl rfl rfl rfl rfl rfl rfl rfl rfl rfl rfl rfl rfl rfl rfl rfl ⟨rfl,⟨_,_,_,_,bO chain number rows 0 next (aq size) txg size,birth,chain,v,p,c,chain,by rw[hlb];rfl,rfl,(i_aa (by exact z20 0x10113e83f80810a3e83f8182 h6 hlb) (by have:=dv [0,next,aq size] (.bytes (aQ size)) blocks;exact z20 0x111100005f808181908ea604f8182 h7 this) (hs _ _ h9 _ _)),?_⟩⟩)
 exact (eB rfl rfl rfl rfl rfl (by omega) rfl rfl rfl rfl rfl ⟨rfl,hP⟩))
def fC:Nm:=⟨[("self",.local),("txg",.local),("pointer",.local)],false,["self","txg","pointer"],[],[],false⟩
theorem kY:aG fC ["self","txg"] [some 0,some 1,none] [] (ao (mS 52 5)):=aw rfl (by rfl)
def kS:PB fC 2 (ay (mS 52 5)):=
 (.con (.fr (.of (.bin Cr (.att 4 19 (.loc 0 0)) (.lst (.con (.att 4 20 (.loc 0 0)) .nil))) (.loc 2 2)) (.con (.exp (.me 5 23 50 none (J4 (n:=2) (J3 sw (by decide))) (.att 4 14 (.loc 0 0)) (.con (.loc 2 2) (.con (.loc 1 1) .nil))))
  .nil))
  .nil)
structure Pt where
 v:Int
 p:Int
 c:Int
 size:Int
 birth:Int
 fill:Int
def Pt.pv (q:Pt):PV:=ptr q.v q.p q.c J7m J4e J5a
def Pt.k (q:Pt):List Int:=[q.v,q.p,q.c]
def dm:List Pt->be->be
 |[],bl=>bl
 |q::r,bl=>dm r (gM q.k bl)
def dN (txg:Int):List Pt->be->be
 |[],g=>g
 |q::r,g=>dN txg r (aY q.k (.int txg) g)
def ez:List Pt->be->Prop
 |[],_=>True
 |q::r,bl=>(∃x,aE q.k bl=some x)/\ez r (gM q.k bl)
theorem AZ (k:List Int) (es:be):(gM k es).length<=J1H:=sA.length_le
theorem AI (ps:List Pt):∀(bl:be) (k:Nat) (q:Pt),ez ps bl->ps[k]? =some q->
  (∃x,aE q.k (dm (J9q k) bl)=some x)/\∀txg g,dm (J9q (k+1)) bl=gM q.k (dm (J9q k) bl)/\dN txg (J9q (k+1)) g=aY q.k (.int txg) (dN txg (J9q k) g):=by
 induction ps with
 |nil=>exact λy y y y h=>nomatch h
 |cons r ps ih=>
  intro bl k q hc h
  cases k with
  |zero=>cases h;exact⟨hc.1,λy y=>⟨rfl,rfl⟩⟩
  |succ k=>
   obtain⟨h1,h2⟩:=ih (gM r.k bl) k q hc.2 h
   exact⟨h1,λtxg g=>⟨(h2 txg g).1,(h2 txg (aY r.k (.int txg) g)).2⟩⟩
theorem ms (ps:List Pt):∀bl:be,(dm ps bl).length<=bl.length:=by
 induction ps with
 |nil=>exact λy=>Jb _
 |cons q r ih=>exact λbl=>JJ (ih _) (AZ _ _)
theorem j5 (txg:Int) (ps:List Pt):∀g:be,(dN txg ps g).length<=g.length+Jt:=by
 induction ps with
 |nil=>exact λy=>Jb _
 |cons q r ih=>exact λg=>JJ (ih (aY q.k (.int txg) g)) (JJ (JBN (dv q.k (.int txg) g) _) (J2z (J2O ..)))
inductive Ff (as:List EV) (sl:List SO) (P:EV->List SO->Prop):Prop
 |mk (size:Nat) (chain number seq:Int) (a:Pt) (ws:List Pt) (blocks gone:be) (next wr txg:Int) (h0:as=[.loc 0,.pv (.int txg)]) (h1:sl=kP size chain number seq JHJ (J5k Jv) blocks gone next wr) (h2:(ez (ws++[a]) blocks/\J1Q<=60000/\J6h<=60000/\Jx<=1000)) (h3:P (.pv .none) (kP size chain number seq JHJ (J5k Jv) (dm (ws++[a]) blocks) (dN txg (ws++[a]) gone) next wr))
set_option tactic.hygienic true in
theorem kR:ac 3 423 2 Ff:=ar (kFn 42 rfl) kY aJ kS (by
 rintro _ _ P _ ⟨size,chain,number,seq,a,ws,blocks,gone,next,wr,txg,rfl,rfl,⟨h1,h2,h3,h4⟩,hP⟩
 have e:J5k Jv++[JHJ]=(ws++[a]).map Jv:=by rw[Ji];rfl
 refine⟨rfl,rfl,rfl,rfl,by simp,by simp;omega,λk st=>∃x,st=⟨[some (.loc 0),some (.pv (.int txg)),x],[],[],kP size chain number seq JHJ (J5k Jv) (dm ((ws++[a]).take k) blocks) (dN txg ((ws++[a]).take k) gone) next wr⟩,⟨none,rfl⟩,?_,?_⟩
 ·intro k x _ hx hq9 K hK
  refine e1_1 hq9 λy er0=> ?_
  clear hq9
  obtain rfl:=er0
  have hx:(bt (J5k Jv++[JHJ]))[k]? =some x:=hx
  rw[e,au,JR] at hx
  refine e1_2 (Jw hx) λq hq er0=> ?_
  refine Jm▸?_
  refine e0_2 (AI _ _ _ _ h1 hq) λen1 q2=> ?_
  refine e1_1 en1 λz q1=> ?_
  clear en1
  refine (cM rfl rfl rfl rfl trivial rfl ⟨_,_,next,wr,q.v,q.p,q.c,J7m,J4e,J5a,txg,z,rfl,rfl,(i_aa q1 (JJ (ms _ _) (by omega)) ?_),hK _ ⟨some (.pv JG6),?_⟩⟩)
  ·have:=j5 txg ((ws++[a]).take k) gone
   rw[J0k,JO] at this
   simp only [J0w,J30] at this
   exact z50 0x10011111101111100005f808182943c319083e83f828ea604f8184 h3 h4 this fM
  ·rw[(q2 txg gone).1,(q2 txg gone).2];rfl
 ·intro st2 hq9
  refine e1_1 hq9 λx e3=> ?_
  clear hq9
  have e2:(ws++[a]).take (bt (J5k Jv++[JHJ])).length=ws++[a]:=by rw[e,au,J6,J0a]
  have e4:=J74 (JD (λl=>JAs _ _ _ (kP size chain number seq JHJ (J5k Jv) (dm l blocks) (dN txg l gone) next wr)) e2)
  rw[e4]
  exact⟨rfl,hP⟩)
def cf:Nm:=⟨[("self",.local),("chain",.local),("txg",.local),("Misused",.globalImplicit)],false,["self","chain","txg"],[],[],false⟩
theorem c5:aG cf ["self","chain","txg"] [some 0,some 1,some 2] [] (ao (mS 52 6)):=aw rfl (by rfl)
def fp:PB cf 4 (ay (mS 52 6)):=
 (.con (.iff (.cmp lT (.loc 1 1) (.att 4 16 (.loc 0 0))) .ded .nil)
  (.con (.exp (.me 4 17 38 none (J4 (n:=4) (J3 kR (by decide))) (.loc 0 0) (.con (.loc 2 2) .nil)))
  (.con (.asg (.att 4 16 (.loc 0 0)) (.loc 1 1))
  (.con (.asg (.att 4 17 (.loc 0 0)) .int)
  (.con (.asg (.att 4 19 (.loc 0 0)) (.lsS .nil))
  (.con (.asg (.att 4 20 (.loc 0 0)) (.me 4 13 34 none (J4 (n:=4) (J3 cr (by decide))) (.loc 0 0) (.con (.loc 2 2) .nil)))
  .nil))))))
inductive pH (as:List EV) (sl:List SO) (P:EV->List SO->Prop):Prop
 |mk (size:Nat) (chain number seq:Int) (a:Pt) (ws:List Pt) (blocks gone:be) (next wr chain2 txg:Int) (h0:as=[.loc 0,.pv (.int chain2),.pv (.int txg)]) (h1:sl=kP size chain number seq JHJ (J5k Jv) blocks gone next wr) (h2:(ez (ws++[a]) blocks/\J1Q<=60000/\J6h<=60000/\Jx<=1000/\chain<chain2/\size<=1000/\J8T<100000)) (h3:P (.pv .none) [.inst 433 [(14,.loc 1),(15,.pv (.int size)),(16,.pv (.int chain2)),(17,.pv (.int 0)),(18,.pv (.int seq)),(19,.loc 5),(20,.pv (ptr 0 next (aq size) size txg chain2))],.inst 543 [(21,.pv (.int 16)),(22,.loc 3),(23,.loc 4),(24,.pv (.int (next+aq size))),(19,.pv (.int (wr+1)))],.list (J5k Jv),.tdict (aY [0,next,aq size] (.bytes (aQ size)) (dm (ws++[a]) blocks)),.tdict (dN txg (ws++[a]) gone),.list []])
set_option tactic.hygienic true in
theorem fj:ac 5 430 3 pH:=ar (kFn 43 rfl) c5 aJ fp (by
 rintro _ _ P _ ⟨size,chain,number,seq,a,ws,blocks,gone,next,wr,chain2,txg,rfl,rfl,⟨h1,h2,h3,h4,h5,h6,h7⟩,hP⟩
 refine (i_aa rfl rfl (bu (J0K (by exact z02 0x1110030111 h5)) ?_))
 refine (ax rfl trivial rfl ⟨size,chain,number,seq,a,ws,blocks,gone,next,wr,txg,rfl,rfl,(ax h1 h2 h3 h4),?_⟩)
 refine (fh rfl rfl rfl rfl (by decide) rfl rfl rfl trivial rfl ⟨size,chain2,0,seq,[(20,.pv JHJ)],[],_,_,next,wr,txg,rfl,rfl,(ax (.inr ⟨_,rfl⟩) h6 (JJ (ms _ _) (by omega)) h7),?_⟩)
 exact (i_aa rfl rfl hP))
def dn:Nm:=⟨[("self",.local),("io",.local),("size",.local),("chain",.local),("txg",.local),("seq",.local),("room_of",.globalImplicit),("Misused",.globalImplicit)],false,["self","io","size","chain","txg","seq"],[],[],false⟩
theorem dp:aG dn ["self","io","size","chain","txg","seq"] [some 0,some 1,some 2,some 3,some 4,some 5] [] (ao (mS 52 0)):=aw rfl (by rfl)
def eQ:PB dn 4 (ay (mS 52 0)):=
 (.con (.iff (.or (.cmp iM (.fn 6 18 30 (J4 (n:=4) (J3 jG (by decide))) (.con (.loc 2 2) .nil)) .int) (.or (.cmp iM (.loc 3 3) .int) .or0)) .ded .nil)
  (.con (.asg (.att 4 14 (.loc 0 0)) (.loc 1 1))
  (.con (.asg (.att 4 15 (.loc 0 0)) (.loc 2 2))
  (.con (.asg (.att 4 16 (.loc 0 0)) (.loc 3 3))
  (.con (.asg (.att 4 17 (.loc 0 0)) .int)
  (.con (.asg (.att 4 18 (.loc 0 0)) (.loc 5 5))
  (.con (.asg (.att 4 19 (.loc 0 0)) (.lsS .nil))
  (.con (.asg (.att 4 20 (.loc 0 0)) (.me 4 13 34 none (J4 (n:=4) (J3 cr (by decide))) (.loc 0 0) (.con (.loc 4 4) .nil)))
  .nil))))))))
inductive lJ (five:Bool) (as:List EV) (sl:List SO) (P:EV->List SO->Prop):Prop
 |mk (size:Nat) (chain seq:Int) (blocks gone:be) (next wr txg:Int) (h0:as=[.loc 0,.loc 1,.pv (.int size),.pv (.int chain),.pv (.int txg)]++(match five with |true=>[]|false=>[.pv (.int seq)])) (h1:(five=true->seq=0)) (h2:sl=[.inst 433 [],.inst 543 [(21,.pv (.int 16)),(22,.loc 2),(23,.loc 3),(24,.pv (.int next)),(19,.pv (.int wr))],.tdict blocks,.tdict gone]) (h3:(37<=size/\size<=1000/\1<=chain/\J1Q<=60000/\J8T<100000)) (h4:P (.pv .none) [.inst 433 [(14,.loc 1),(15,.pv (.int size)),(16,.pv (.int chain)),(17,.pv (.int 0)),(18,.pv (.int seq)),(19,.loc 4),(20,.pv (ptr 0 next (aq size) size txg chain))],.inst 543 [(21,.pv (.int 16)),(22,.loc 2),(23,.loc 3),(24,.pv (.int (next+aq size))),(19,.pv (.int (wr+1)))],.tdict (aY [0,next,aq size] (.bytes (aQ size)) blocks),.tdict gone,.list []])
theorem jI:ac 5 388 6 (lJ false):=ar (kFn 36 rfl) dp aJ eQ (by
 rintro _ _ P _ ⟨size,chain,seq,blocks,gone,next,wr,txg,rfl,_,rfl,⟨h1,h2,h3,h4,h5⟩,hP⟩
 refine⟨rfl,_,rfl,rfl,bu (J0K (by exact z10 0x1118102f8142f80eaa130252f881 h1)) (bu (J0K (by exact z01 0x111801301801 h3)) (?_))⟩
 refine (cb rfl rfl rfl rfl rfl rfl rfl rfl rfl rfl (by decide) rfl rfl rfl trivial rfl ⟨size,chain,0,seq,[],[],_,_,next,wr,txg,rfl,rfl,(ax (.inl rfl) h2 (by omega) h5),?_⟩)
 exact (i_aa rfl rfl hP))
theorem ii:ac 5 388 5 (lJ true):=ar (dflE:=[.pv (.int 0)]) (kFn 37 rfl) dp (λy y=>.cons (.pv (.int _ _)) .nil) eQ (by
 rintro _ _ P _ ⟨size,chain,seq,blocks,gone,next,wr,txg,rfl,hs,rfl,⟨h1,h2,h3,h4,h5⟩,hP⟩
 obtain rfl:=hs rfl
 refine⟨rfl,_,rfl,rfl,bu (J0K (by exact z10 0x1118102f8142f80eaa130252f881 h1)) (bu (J0K (by exact z01 0x111801301801 h3)) (?_))⟩
 refine (cb rfl rfl rfl rfl rfl rfl rfl rfl rfl rfl (by decide) rfl rfl rfl trivial rfl ⟨size,chain,0,0,[],[],_,_,next,wr,txg,rfl,rfl,(ax (.inl rfl) h2 (by omega) h5),?_⟩)
 exact (i_aa rfl rfl hP))
theorem aA.stays {w:World}{Γ:Nm}{X:Fx}{st:St}{T:List EV}{vs:List Value}{h h':Heap}{N:Led}{own:Own}{ρ:List Addr}{m:Str->Option Value}(H:aA w Γ X st T vs h N own ρ m) (hg:∀b o,J1s b=some o->JW b=some o)
  (hN:∀p∈N,JW p.1=some p.2) (hns:h'.Ns X.L m):aA w Γ X st T vs h' N own ρ m:=
 H.heap ⟨hns,hg,H.fr.above⟩ λp hp=>⟨hN p hp,(JD4 p hp).2⟩
def vr (w:World) (n:Nat) (f:Addr) (g:Heap):Prop:=∀{{A1:J7}} {{env1:Env}} {{Γ1:Nm}} {{X1:Fx}} {{st1:St}} {{s:J1}} {{h1:Heap}} {{t:Nat}} {{outer:List Env}},Cx w A1 env1 Γ1 X1 n->Rel w Γ1 X1 st1 [] [] h1->(∀b o,J3L b=some o->X1.g.get? b=some o)->A1.frames=some outer->
 ae (model prog0 w) A1 (call (.ref f) []) (λy y=>False) (λe s'=>∃a h' tk,e=.ref a/\s'=At s h' tk/\J8q h1 outer a h') (At s h1 t)
def DE:Nm:=⟨[("call",.local),("Misused",.globalImplicit)],false,["call"],[],[],false⟩
theorem Go:aG DE ["call"] [some 0] [] (ao (aB 71)):=aw rfl (by decide)
theorem Cb {n:Nat}{w:World}{A:J7}{env:Env}{Γ:Nm}{X:Fx}(C:Cx w A env Γ X (n+1)) (hA:J3w=some [env]) {st:St}{T:List EV}{vs:List Value}{s:J1}{h:Heap}{t:Nat}{f:Addr}{Q:Value->J1->Prop}{E:Value->J1->Prop}
  (H:Rel w Γ X st T vs h) (hf:FnAt f h) (hT:vr w n f h) (hL:J3M=some X.L) (hQ:∀h' t',Rel w Γ X st T vs h'->Q (.bool true) (At s h' t')):
  ae (model prog0 w) A (call (.ref 606) [.ref f]) Q E (At s h t):=by
 refine bB (Dy (kFn 67 rfl) Go aJ J1q J54 (args:=[.pv (.val (.ref f))]) (ws:=[.ref f]) rfl rfl (J9k λy y=>.pv (.val _)) (ids:=[]) rfl rfl λ{X1 env1 h1 tk} I R1=> ?_)
 have hA1:(J2G env1).frames=some [env1,env]:=J3J hA
 refine bQ (tG ?_)
 refine bQ (fR (bR ?_) (by unfold J8Y;rw[JEg];rfl) rfl)
 refine oQ (Γ:=DE) (n:=n) (i:=0) (j:=0) rfl rfl rfl I.cx (P:=λev st'=>ev=.pv (.val (.ref f))) R1 rfl λev v st2 h2 t2 H2 hv2=> ?_
 subst hv2
 refine e2_1 JHS λfz ρ z=> ?_
 have e:v=.ref f:=by cases z with |pv z=>cases z;rfl
 refine J5x▸?_
 replace H2:=H2.pop
 have le2:∀b o,JN b=some o->JHB b=some o:=λb o q=>by
  refine J9 H2 λN own ρ m R=> ?_
  exact J0v _ _ (I.all rfl _ _ q)
 have hF:FnAt f h2:=by
  refine e4_1 hf λoc od fd sl q=> ?_
  clear hf
  exact (jC oc od fd sl (le2 _ _ q))
 refine dA (P:=FnAt f) rfl keeps_F (fk (fV ⟨hF,?_⟩))
 refine ag (hT I.cx H2 (λb o q=>I.all rfl _ _ q) hA1) (λy y q=>JDp) λe s' q=> ?_
 refine e3_3 q λa h3 tk3 er0 er1 TH=> ?_
 clear q
 obtain rfl:=er0
 obtain rfl:=er1
 obtain⟨pT,mg,mb,loose,TR⟩:=JHc
 refine J9 H λN own ρ m R=> ?_
 have hL1:JN X1.L=none:=by
  cases q:JN X1.L with
  |none=>rfl
  |some o=>
   obtain⟨_,_,_,_,R2⟩:=H2
   have:=JHO R2.fr
   rw[I.all rfl _ _ q] at this;cases this
 have nf:∀b o,JN b=some o->b≠X.L->b∉MX.frs [env1,env]:=λb o q hb hm=>by
  rcases (JHP I.fr).mp hm with rfl|hm
  ·rw[hL1] at q;cases q
  ·clear H2 q
   rcases (JHP hL).mp hm with rfl|hm
   ·exact hb rfl
   ·cases hm
 have nX:∀b o,J1s b=some o->b≠X.L:=λb o q hb=>by
  have:=JHO JF7
  rw[<- hb,q] at this;cases this
 refine MX.caught JEq hA1 I.fr JEg ((JD (JHQ _) I.cx.nms).trans rfl) I.cx.glob TH (g:=X.g) (λb o q=>⟨le2 _ _ (J0v _ _ q),nf _ _ (J0v _ _ q) (nX b o q)⟩) C.KI TR λh4 T4=> ?_
 obtain⟨B,tt,b1,b2,b3⟩:=T4
 have kp:∀b o,JN b=some o->b≠X.L->h4.get? b=some o:=λb o q hb=>b2.1 _ _ (b1 _ _ (le2 _ _ q) (nf b o q hb))
 refine hQ h4 tk3 ⟨N,own,ρ,m,R.stays (λb o q=>kp b o (J0v _ _ q) (nX b o q)) (λp hp=>kp _ _ (JH p hp).1 (JH p hp).2.1) ?_⟩
 exact b3.ns (JFi le2)
theorem qA {prog:J3Z}{w:World}{A:J7}{R:J4y->J1->Prop}{s:J1}{e:Expr}{env:Env}
  (h:ae (model prog w) (J2G env) (eval e env) (λv s'=>R (.ok (.ret v)) s')
   (λe' s'=>ae (model prog w) (J2G env) (J5N env e') (λy s''=>R (.error e') s'') (λe'' s''=>R (.error e'') s'') s') s):
  aC (model prog w) A (.expr e env) R s:=by
 refine aN ?_
 show ae _ (J2G env) (do point;ret (<- (eval e env).onRaise (J5N env))) _ _ s
 exact aa (du (aa (cj (ag h (λv s' h'=>af h') λy y h'=>h'))))
theorem Bm {prog:J3Z}{w:World}{A:J7}{R:J4y->J1->Prop}{s:J1}{a:Addr}{args:Args}{o:Obj}{fd:JCT}{body:Expr}(hroom:J6u<J27)
  (ho:Jr a=some o)
  (hd':J2v=.func fd) (hco:JBH=false) (hgen:JBG=false) (hbody:fd.body=.expr body) (hcd:J9A JE8 J8b)
  (h:ae (model prog w) J6t (JCK fd args) (λbinds s1a=>
   ae (model prog w) J6t (J6Q fd.scope fd.globals fd.closure binds (J8b++".<locals>.") (some a) JE8 none JHD)
    (λenv s2a=>JDd/\aC (model prog w) A (.expr body env) R s2a) (λe s'=>R (.error e) s') s1a) (λe s'=>R (.error e) s') s):
  aC (model prog w) A (.call (.ref a) args) R s:=by
 refine aN ?_
 show ae _ J6t (JEF (.ref a) args) _ _ s
 refine aa (av (J2d ho ?_))
 refine e4_4 hcd λc oc vs tq hc hoc hdc hq=> ?_
 clear hcd
 simp only [Bq,hd',JGI,hco,hgen,hbody,hc]
 rw[hc] at h
 refine aa (m:=field (.ref c) 1) (av (J0Z hoc hdc hq (aa (af ?_))))
 exact aa (ag h (λbinds s1a h1a=>aa (ag h1a (λenv s2a h2a=>aa (av (JAK h2a.1 hroom
  (af (J4N rfl h2a.2))))) λy y h'=>h')) λy y h'=>h')
def Γ0:Nm:=⟨[],false,[],[],[],false⟩
def st0:St:=⟨[],[],[],[]⟩
structure mP (w:World) (A2:J7) (env2:Env) (X2:Fx) (g h2:Heap) (n:Nat) (scope:Scope) (cl:List (Str×Addr)) (outer:List Env):Prop where
 b:BOk w X2
 a:AOk A2 X2 n
 r:Rel w Γ0 X2 st0 [] [] h2
 fz:∀a o,J61 a=some o->X2.fz0 a o
 old:∀b o,J3L b=some o->J61 b=some o
 fr:A2.frames=some (env2::outer)
 f:env2.frame=some X2.L
 sc:env2.scope=scope
 cells:env2.cells=cl
 gl:env2.globals=J0q
 loc:env2.locals=X2.L
abbrev dF:JEu:=⟨[],[],none,[],[],none,[]⟩
abbrev ib:Str:="law.<locals>.<lambda>"
theorem lY {w:World}{n:Nat}{f c':Addr}{g:Heap}{params:JEu}{body:Expr}{scope:Scope}{cl:List (Str×Addr)}{pm ctv:Value}
  (hf:J3L f=some (J8W "<lambda>" ib params body scope cl pm c' ctv)) (hc:g.CodeRec (.ref c') ib) (hp:JCK (kla_fn "<lambda>" ib params body scope cl pm (.ref c') ctv) ⟨[],[]⟩=pure [])
  (hk:J7U=.function) (hco:J7W=false) (hgen:J7V=false) (hcell:∀x∈J17,x.2≠.cell)
  (hb:∀{A2:J7}{env2:Env}{X2:Fx}{s:J1}{h2:Heap}{t:Nat}{outer:List Env},mP w A2 env2 X2 g h2 n scope cl outer->
   ae (model prog0 w) A2 (eval body env2) (λy y=>False) (λe s'=>∃a h' tk hh,e=.ref a/\s'=At s h' tk/\(∀b o,J61 b=some o->J5v b=some o)/\J8q hh (env2::outer) a h') (At s h2 t)):vr w (n+1) f g:=by
 intro A1 env1 Γ1 X1 st1 s h1 t outer C1 R1 hg hA1
 obtain⟨A0a,base,outer',fenv,hB,hA,hff,hke⟩:=C1.below
 obtain rfl:outer=fenv::outer':=JT (hA1.symm.trans hA)
 refine J9 R1 λN own ρ m R=> ?_
 have le:∀b o,J3L b=some o->J8a b=some o:=λb o q=>J0v _ _ (hg b o q)
 obtain⟨pT,mg,mb,loose,TR⟩:=C1.top
 have T1:=TR.keeps J0v
 have hdep:=C1.dep
 have hun:=C1.un
 refine bB (Bm (fd:=kla_fn "<lambda>" ib params body scope cl pm (.ref c') ctv) (body:=body) (by unfold J27;exact z20 0x113e83f8093843f818193b0991 hdep) (le _ _ hf) rfl hco hgen rfl (hc.keeps le) ?_)
 refine (hp).symm▸?_
 refine af (av (JBD hcell (λx hx=>by cases hx) (λh2 hns hsb=>⟨(T1.nolimit).fresh _ hsb,qA ?_⟩) hk))
 have hk1a:∀b o,J8a b=some o->JHB b=some o:=λb o e=>JCh b o (J0O (Jo e)) (JY _ e)
 have hnew:J8a Jz=none:=J4U (Jb _)
 have K':=pushX hB JF7 hff hke
 refine ag (hb (s:=s) (X2:={ g:=h1,L:=Jz,ca:=[],Lc:=none,ρ0:=[],fz0:=λa o=>J8a a=some o,K:=X1.K,hs:=[] }) (outer:=fenv::outer') ⟨?_,?_,?_,λa o q=>q,λb o q=>le b o q,J3J hA,rfl,rfl,rfl,rfl,rfl⟩) (λy y q=>JDp) λe s' q=> ?_
 ·exact⟨(C1.KI.keeps J0v),C1.kok,⟨pT,mg,mb,loose,T1⟩,λa o q=>q⟩
 ·refine⟨⟨A1,base,fenv::outer',_,⟨hA,K'.stays,K'.frames⟩,J3J hA,rfl,hk⟩,?_,?_,C1.hh⟩
  ·show A1.depth+1+3*n<900;exact z20 0x113843f813b1809993843f818193b0991 hdep
  ·show A1.units+3+20*n+300<cLine;exact z30 0x11212c3f81142fb3809999212c3f81819142fb09991 hun
 ·refine⟨[],λy=>.junk,[],_,⟨⟨hns,hk1a,Jb _⟩,λp hp=>(by cases hp),?_,?_,?_,?_,rfl,?_,J83 _,.nil,λp hp=>(by cases hp),J1B⟩⟩
  ·intro i x e h;cases h
  ·intro i c h;cases h
  ·intro c h;cases h
  ·intro i a so h;cases h
  ·intro i a so h;cases h
 ·refine e4_4 q λa h' tk hh er0 er1 q1 q2=> ?_
  clear q
  obtain rfl:=er0
  obtain rfl:=er1
  exact av (MX.leave_on (g:=h1) (J3J hA) rfl q2 q1 hnew λh3 T3=>(cC a h3 tk rfl rfl T3))
theorem u9 {w:World}{A:J7}{env:Env}{Γ:Nm}{X:Fx}{n:Nat}(C:Cx w A env Γ X n) (hf:J3M=some X.L) (hA:∃outer,J3w=some (env::outer)) {test:Expr}{vt:VC Bool}(ht:eV Γ n test vt) {st:St}{s:J1}{h:Heap}{t:Nat}{msg:Str}{kk:Nat}{np cp ap rp ip:Pos}{orelse rest:List Stmt}{j:Nat}
  (R:Rel w Γ X st [] [] h) (hv:vt st λb y=>b=true) (hx:nth Γ.nm j=some (("Misused":Str),J0s)):
  ae (model prog0 w) A (execs (.If test [.Raise (some (.Call (.Name "Misused" np) [.Constant (.str msg) kk ap] [] cp)) none rp] orelse ip::rest) env) (λy y=>False)
   (λe s'=>∃a h' tk m',e=.ref a/\s'=At s h' tk/\Fr X.g X.L h' m'/\MX.Exc 63 a h'/\J1s a=none/\a≠X.L) (At s h t):=by
 obtain⟨A0a,base,outer,fenv,hB,hA',hff,hke⟩:=C.below
 obtain⟨outer',hA⟩:=hA
 have e1:fenv::outer=env::outer':=JT (JF1 hA)
 obtain⟨rfl,rfl⟩:=J7G e1
 obtain⟨pT,mg,mb,loose,TR⟩:=JHc
 refine bQ (rb (ht C R hv λb st2 h2 t2 R2 hb=> ?_))
 refine hb.symm▸?_
 rw[JC rfl]
 refine J9 R2 λN own ρ m RW=> ?_
 refine bQ (av ?_)
 have hd:=C.dep
 exact MX.raise_own (g:=X.g) (L:=X.L) JEq hB RW.fr C.KI TR hA hf J5h (by unfold J27;exact z20 0x113e83f8180993843f813b0991 hd) C.hh (JB8 (bd hx)) JB9 λh' tk a F' ex hn hl=>(dw a h' tk _ rfl rfl F' ex hn hl)
theorem ke {n:Nat}{a:Addr}{k:Nat}{names:List Str}{dfl:List Value}{dflE:List EV}{qual:Str}{test:Expr}{orelse rest:List Stmt}{msg:Str}{kk:Nat}{np cp ap rp ip:Pos}{scope:Scope}{Γf:Nm}{li ci:List (Option Nat)}{vt:VC Bool}{j:Nat}
  (hK:∀w K,KOk w K->nh K a k names dfl qual (.If test [.Raise (some (.Call (.Name "Misused" np) [.Constant (.str msg) kk ap] [] cp)) none rp] orelse ip::rest) scope) (hD:aG Γf names li ci scope) (hdf:∀fz ρ,EVs fz ρ dflE dfl) (ht:eV Γf n test vt) (hx:nth Γf.nm j=some (("Misused":Str),J0s))
  {w:World}{A:J7}{Γ:Nm}{X:Fx}(B:BOk w X) (AO:AOk A X (n+1)) {l:List Env}(hA:J3w=some l) {st:St}{T:List EV}{vs:List Value}{args:List EV}{ws:List Value}{s:J1}{h:Heap}{t:Nat}
  (hl:J1J=Jx) (hk:J1J=k) (H:Rel w Γ X st (args++T) (ws++vs) h) {ids:List Nat}(hids:fX J5 args=ids) (hok:okIds ids JK=true)
  (hv:vt { lo:=hZ (gL (ren ids) args++dflE) li,ce:=hZ (gL (ren ids) args++dflE) ci,co:=[],sl:=fY (ren ids) J5 ids } λb y=>b=true) (htop:Jl (Γf.top=false) Jn):
  aC (model prog0 w) A (.call (.ref a) ⟨ws,[]⟩) (λr s'=>match r with | .ok _=>False| .error e=>∃a h' tk hh,e=.ref a/\s'=At s h' tk/\(∀b o,J1s b=some o->J5v b=some o)/\J8q hh l a h') (At s h t):=by
 refine Dy hK hD hdf B AO hl hk H hids hok (λ{X' env' h1 tk} I R1=> ?_) htop
 refine e2_2 I.bel λbase outer hB hA'=> ?_
 obtain rfl:outer=l:=JT (JF1 hA)
 have hA2:(J2G env').frames=some (env'::outer):=J3J hA
 refine ag (u9 I.cx I.fr ⟨_,hA2⟩ ht R1 hv hx) (λy y q=>JDp) λe s' q=> ?_
 refine e4_6 q λa h' tk' m' er0 er1 F' ex hn hne=> ?_
 clear q
 rw[er0]
 rw[er1]
 exact av (MX.leave_first hB hA2 I.fr JEg F' ex hn hne λh3 T3=>(bT a h3 tk' X'.g rfl rfl JFr T3))
def AD:List Stmt->Expr
 | .If t _ _ _::_=>t
 |_=>.Constant .none 0 ⟨0,0,0,0⟩
def E7:PI cf 4 (AD (ay (mS 52 6))):=.cmp lT (.loc 1 1) (.att 4 16 (.loc 0 0))
def E6:PI dn 4 (AD (ay (mS 52 0))):=.or (.cmp iM (.fn 6 18 30 (J4 (n:=4) (J3 jG (by decide))) (.con (.loc 2 2) .nil)) .int) (.or (.cmp iM (.loc 3 3) .int) .or0)
section
variable {w:World}{A2:Around}{env2:Env}{X2:Fx}{g h2:Heap}{n:Nat}{scope:Scope}{cl:List (Str×Addr)}{outer:List Env}
theorem mP.kind (I:mP w A2 env2 X2 g h2 n scope cl outer):env2.scope.kind=.function:=by
 obtain⟨A0a,base,outer',fenv,hB,hA,hff,hke⟩:=I.a.below
 clear hff
 obtain⟨rfl,_⟩:=J7G (JT (I.fr.symm.trans hA))
 exact hke
theorem gE (I:mP w A2 env2 X2 g h2 n scope cl outer) {x:Str}{pos:Pos}{c:Addr}{v:Value}{s:J1}{Q E:Value->J1->Prop}(hx:J21 x=some .free) (hc:J4F x=some c) (hv:JCE c (some v))
  (le:∀b o,J61 b=some o->Jr b=some o) (h:Q v s) (hd:Jl ((x==("__debug__":Str))=false) Jn) (hn:Jl ((x==("__classdict__":Str))=false) Jn):ae (model prog0 w) A2 (eval (.Name x pos) env2) Q E s:=
 av (PySem.wpAny_Name (PySem.wpAny_loadName_free I.kind (by show J9z _=_;rw[I.sc];exact hx) (by rw[I.cells];exact hc) (hv.keeps λb o q=>le b o (JFr b o q)) h hn) hd)
theorem As (I:mP w A2 env2 X2 g h2 n scope cl outer) {x:Str}{pos:Pos}{v:Value}{s:J1}{Q E:Value->J1->Prop}(hx:J21 x=some .globalImplicit) (hg:nsIn X2.K J0q x=some (some v))
  (le:∀b o,J61 b=some o->Jr b=some o) (h:Q v s) (hd:Jl ((x==("__debug__":Str))=false) Jn):ae (model prog0 w) A2 (eval (.Name x pos) env2) Q E s:=by
 obtain⟨p,mg,mb,loose,TR⟩:=I.b.top
 exact av (J2D I.kind (by show J9z _=_;rw[I.sc];exact hx) (J5A (mg:=mg) (by rw[I.gl];exact JCr le) (mg_of I.b.KI TR.g hg) h) hd)
end
def sf:Scope:=⟨.function,[("io",.free),("IntentLog",.globalImplicit)],false,false,[]⟩
theorem Aq {w:World}{g:Heap}{cl:List (Str×Addr)}{c:Addr}{v:Value}{i1 i2 i3:Int}{k1 k2 k3:Nat}{p1 p2 p3 p4 p5 p6:Pos}(hc:J4F ("io":Str)=some c) (hv:JCE c (some v)) (hbad:i1 - 20 - 16<1∨i2<1)
  {A2:J7}{env2:Env}{X2:Fx}{s:J1}{h2:Heap}{t:Nat}{outer:List Env}(I:mP w A2 env2 X2 g h2 6 sf cl outer):
   ae (model prog0 w) A2 (eval (.Call (.Name "IntentLog" p1) [.Name "io" p2,.Constant (.int i1) k1 p3,.Constant (.int i2) k2 p4,.Constant (.int i3) k3 p5] [] p6) env2) (λy y=>False) (λe s'=>∃a h' tk hh,e=.ref a/\s'=At s h' tk/\(∀b o,J61 b=some o->J5v b=some o)/\J8q hh (env2::outer) a h') (At s h2 t):=by
 refine J9 I.r λN own ρ m R=> ?_
 refine bR (As I rfl (vY 44 rfl w _ J8w) J0v ?_)
 refine dA (P:=X2.K.In) rfl (JDx (sk 70 rfl w _ J8w)) (cW ?_)
 have step:∀{i:Int}{k:Nat}{p:Pos}{rest:List Expr}{s':J1}{Q:List Value->J1->Prop}{E:Value->J1->Prop},ae (model prog0 w) A2 (J3T (J00 p6 (Je rest env2))) (λvs s2a=>Q (.int i s'.toks::vs) s2a) E { s' with toks:=s'.toks+1 }->
   (∀env,Je (.Constant (.int i) k p::rest) env=(false,eval (.Constant (.int i) k p) env)::Je rest env)->ae (model prog0 w) A2 (J3T (J00 p6 (Je (.Constant (.int i) k p::rest) env2))) Q E s':=
  λh he=>eZ (av (PySem.wpAny_Constant_int h)) (he env2)
 refine dJ (gE I rfl hc hv J0v (step (step (step (dI ?_) λy=>rfl) λy=>rfl) λy=>rfl))
 refine⟨JB6 J0v,?_⟩
 have M:=d6 12 rfl w _ J8w
 refine bB (Ag (s:=At s h2 _) JF7 JH (JB6 J0v) (eI 4 rfl w _ J8w) JGT M.ty λx dx h' F' N' hf hx=> ?_)
 have R1:=R.mkInst F' N' hf hx
 have R2:Rel w Γ0 X2 { st0 with sl:=[.inst 433 []] } ([.loc 0,.pv (.val v),.pv (.int i1),.pv (.int i2),.pv (.int i3)]++[]) ([.ref x,v,.int i1 t,.int i2 (t+1),.int i3 (t+1+1)]++[]) h':=by
  refine J9 R1 λN own ρ m R=> ?_
  refine e0_2 Jg λz zs=> ?_
  exact⟨_,_,_,_,Jj (.cons z (.cons (.pv (.val v)) (.cons (.pv (.int _ _)) (.cons (.pv (.int _ _)) (.cons (.pv (.int _ _)) .nil)))))⟩
 refine cX (ke (n:=4) (dflE:=[.pv (.int 0)]) (j:=7) (kFn 37 rfl) dp (λy y=>.cons (.pv (.int _ _)) .nil) (E6.ok (by kernel_rfl)) rfl I.b I.a.under I.fr (args:=[.loc 0,.pv (.val v),.pv (.int i1),.pv (.int i2),.pv (.int i3)]) rfl rfl R2 (ids:=[0]) rfl rfl ?_) λr s' q=> ?_
 ·rcases JB4 (i1 - 20 - 16) 1 with z|z
  ·exact⟨rfl,i1,rfl,rfl,cw (Jq z) rfl⟩
  ·exact⟨rfl,i1,rfl,rfl,bu (J0K (by exact z01 0x1118102f8142f80aa13102f8142f80aa1801 z)) (cw (Jq (hbad.resolve_left (by exact z01 0x1118102f8142f80aa13102f8142f80aa1801 z))) rfl)⟩
 ·cases r with
  |ok f=>exact JDp
  |error e=>exact q
theorem EVa.toPRa {fz fz':FzP}{ρ:List Addr}(m:∀a o,fz a o->fz' a o) {as:List (Nat×EV)}{es:List J0g}(h:EVa fz ρ as es):∃as':List (Nat×PV),PRa fz' as' es/\∀k p,findA k as=some (.pv p)->findA k as'=some p:=by
 induction h with
 |nil=>exact⟨[],.nil,λk p h=>by cases h⟩
 | @cons k0a e de t as es hk hl h hs ih=>
  refine e1_2 ih λas' h1 h2=> ?_
  have hp:∀v,EVR fz ρ e v->∃q,PR fz' q v/\∀p,e=.pv p->q=p:=by
   intro v h
   cases h with
   |pv h=>exact (az _ (J6l m h) (λp z=>by cases z;rfl))
   |loc h=>exact (az (.val _) (.val _) (λp z=>by cases z))
   |bad v=>exact (az (.val _) (.val _) (λp z=>by cases z))
  refine e1_2 (hp _ h) λq q1 q2=> ?_
  refine (az ((k0a,q)::as') (.cons hk hl q1 h1) (λk p hf=> ?_))
  rw[qb] at hf ⊢
  cases hb:J1z k k0a with
  |true=>rw[hb] at hf;exact JD some (q2 p (JT hf))
  |false=>rw[hb] at hf;exact h2 k p hf
def sg:Scope:=⟨.function,[("log",.free),("txg",.free)],false,false,[]⟩
theorem Au {w:World}{g:Heap}{cl:List (Str×Addr)}{c c2 x d:Addr}{as:List (Nat×EV)}{es:List J0g}{nn:Nat}{fz:FzP}{ρ:List Addr}{ch txg:Int}{tk:Tok}(hc:J4F ("log":Str)=some c) (hv:JCE c (some (.ref x))) (hc2:J4F ("txg":Str)=some c2) (hv2:JCE c2 (some (.int txg tk)))
  (hx:J3L x=some (J3l 433 d)) (hd:J3L d=some (J5c es nn)) (ha:EVa fz ρ as es) (hfz:∀a o,fz a o->J3L a=some o) (hch:findA 16 as=some (.pv (.int ch)))
  {A2:J7}{env2:Env}{X2:Fx}{s:J1}{h2:Heap}{t:Nat}{outer:List Env}(I:mP w A2 env2 X2 g h2 5 sg cl outer):
   ae (model prog0 w) A2 (eval (.Call (.Attribute (.Name "log" ⟨480,8,480,11⟩) "begin_anew" ⟨480,8,480,22⟩) [.Attribute (.Name "log" ⟨480,23,480,26⟩) "chain" ⟨480,23,480,32⟩,.Name "txg" ⟨480,34,480,37⟩] [] ⟨480,8,480,38⟩) env2) (λy y=>False) (λe s'=>∃a h' tk hh,e=.ref a/\s'=At s h' tk/\(∀b o,J61 b=some o->J5v b=some o)/\J8q hh (env2::outer) a h') (At s h2 t):=by
 refine J9 I.r λN own ρ2 m R=> ?_
 have O:=CJ 4 rfl w _ J8w
 have M:=d6 18 rfl w _ J8w
 have le:∀b o,J3L b=some o->JHB b=some o:=λb o q=>J0v _ _ (JFr b o q)
 have KI:=JB6 J0v
 have IA:InstAt h2 x (J3l 433 d) 433 (some (J5c es nn)):=⟨le _ _ hx,rfl,rfl,le _ _ hd⟩
 have L:=JH9 (m:=nn) (k:=16) (by decide)
 rw[hch] at L
 refine e1_2 L λv' l1 l2=> ?_
 clear L
 obtain⟨tk',rfl⟩:∃tk',v'=.int ch tk':=by cases l2 with |pv z=>cases z;exact⟨_,rfl⟩
 refine dq (pl:=do return (<- importBound (.Name "log" ⟨480,8,480,11⟩) env2).getD true) (gE I rfl hc hv J0v ?_) rfl
 refine av (method_fn (s:=At s h2 t) KI IA O.ga O.gk JGT M.ty (ha.shadow (kk:=none) (vX (by rfl)) trivial) ?_)
 refine dA (P:=X2.K.In) rfl (JDx (sk 39 rfl w _ J8w)) (cW ?_)
 refine dJ (gt (gE I rfl hc hv J0v (av (get_value (s:=At s h2 t) KI IA O.ga (j7 O (by decide) l1) rfl ?_))) rfl)
 refine eZ (gE I rfl hc2 hv2 J0v (dI ?_)) rfl
 refine⟨KI,?_⟩
 refine e1_2 (EVa.toPRa (fz':=aI X2.fz0 N own) (λa o q=>.inl (I.fz _ _ (JFr _ _ (hfz a o q)))) ha) λas' a1 a2=> ?_
 have R2:Rel w Γ0 X2 st0 ([.pv (.inst 433 as'),.pv (.int ch),.pv (.int txg)]++[]) ([.ref x,.int ch tk',.int txg tk]++[]) h2:=
  ⟨N,own,ρ2,m,Jj (.cons (.pv (.inst (.inl (I.fz _ _ (JFr _ _ hx))) (.inl (I.fz _ _ (JFr _ _ hd))) a1)) (.cons (.pv (.int _ _)) (.cons (.pv (.int _ _)) .nil)))⟩
 refine bB (cX (ke (n:=4) (dflE:=[]) (j:=3) (kFn 43 rfl) c5 aJ (E7.ok (by kernel_rfl)) rfl I.b I.a I.fr (args:=[.pv (.inst 433 as'),.pv (.int ch),.pv (.int txg)]) rfl rfl R2 (ids:=[]) rfl rfl ?_) λr s' q=> ?_)
 ·refine⟨rfl,?_⟩
  show aj ((findA 16 as').map EV.pv) _
  rw[a2 16 _ hch]
  exact⟨rfl,Jq (J4s ch)⟩
 ·cases r with
  |ok f=>exact JDp
  |error e=>exact q
theorem F8 {env:Env}{c c2:Addr}(h:J1A ("log":Str)=some c) (h2:J1A ("txg":Str)=some c2):J47 sg env=pure [(("txg":Str),c2),(("log":Str),c)]:=by
 have e1:cellOf env "log"=pure c:=by unfold cellOf;rw[h]
 have e2:cellOf env "txg"=pure c2:=by unfold cellOf;rw[h2]
 unfold J47 sg
 simp only [J3s,J9J]
 rw[JC (by rfl),e1]
 simp only [pure_bind]
 rw[JC (by rfl),e2]
 rfl
theorem F7 {env:Env}{c:Addr}(h:J1A ("io":Str)=some c):J47 sf env=pure [(("io":Str),c)]:=by
 have e1:cellOf env "io"=pure c:=by unfold cellOf;rw[h]
 unfold J47 sf
 simp only [J3s,J9J]
 rw[JC (by rfl),e1]
 simp only [pure_bind]
 rw[JL (by decide)]
 rfl
theorem ej.triples {N:Led}{own:Own}{i:Nat}{l:List Value}(h:ej N own i l):TriplesOk l:=by
 induction h with
 |nil=>trivial
 |cons _ _ _ _ _ ih=>exact ih
theorem ej.hit {N:Led}{own:Own}{i:Nat}{l:List Value}(h:ej N own i l) {pos:Pos}{v:Value}(hv:JED pos l=some v):∃a o vs tq,v=.ref a/\(a,o)∈N/\J2v=.fields vs/\vs[1]? =some (.str ib tq):=by
 induction h with
 |nil=>cases hv
 |cons h ho hd hq _ ih=>
  unfold JED at hv
  split at hv
  ·clear ih
   cases hv;exact (bT _ _ _ _ rfl h hd hq)
  ·exact ih hv
theorem ej.snoc {N:Led}{own:Own}{i:Nat}{l:List Value}(h:ej N own i l) {p q:Int}{t u:Tok}{a:Addr}{o:Obj}{vs:Array Value}{tq:Tok}(h1:(a,o)∈N) (h2:own a=.slot i) (h3:J2v=.fields vs) (h4:vs[1]? =some (.str ib tq)):ej N own i (l++[.int p t,.int q u,.ref a]):=by
 induction h with
 |nil=>exact .cons h1 h2 h3 h4 .nil
 |cons a b c d _ ih=>exact .cons a b c d ih
theorem ej.up {N N':Led}{own own':Own}{i j:Nat}{l:List Value}(h:ej N own i l) (m:∀b o,own b=.slot i->(b,o)∈N->(∃vs tq,J2v=.fields vs/\vs[1]? =some (.str ib tq))->(b,o)∈N'/\own' b=.slot j):ej N' own' j l:=by
 induction h with
 |nil=>exact .nil
 |cons a b c d _ ih=>exact .cons (m _ _ b a (eJ _ _ c d)).1 (m _ _ b a (eJ _ _ c d)).2 c d ih
theorem ej.second {N:Led}{own:Own}{i:Nat}{l:List Value}(h:ej N own i l) {x:Str}{t:Tok}:l[1]?≠some (.str x t):=by
 cases h with
 |nil=>intro z;cases z
 |cons=>intro z;cases z
set_option tactic.hygienic true in
theorem AT {w:World}{A:J7}{env:Env}{Γ:Nm}{X:Fx}{n:Nat}(C:Cx w A env Γ X n) (ht:Γ.top=true) {body:Expr}{scope:Scope}{lpos:Pos}{cl:List (Str×Addr)}(hcl:J47 scope env=pure cl) {st:St}{T:List EV}{vs:List Value}{s:J1}{h:Heap}{t:Nat}{Q E:Value->J1->Prop}
  (H:Rel w Γ X st T vs h) {sl':List SO}(hs:J5=.tab::sl')
  (hQ:∀f c' pm ctv h' t',Rel w Γ X st T vs h'->JW f=some (J8W "<lambda>" ib dF body scope cl pm c' ctv)->h'.CodeRec (.ref c') ib->Q (.ref f) (At s h' t')):
  ae (model prog0 w) A (eval (.Lambda dF body scope lpos) env) Q E (At s h t):=by
 obtain⟨hA,hq,c,P,mg,bm,ob,t1,t2,t3,t4,t5,t6,t7,t8,t9,t10⟩:=C.topo ht
 refine J9 H λN own ρ m R=> ?_
 have hρ:ρ[0]? =some P:=e8 (t3▸R.pre) 0 P rfl
 have hs0:J5[0]? =some .tab:=by rw[hs];rfl
 have S:=J96 0 P .tab hρ hs0
 have hown:=J2h hρ hs0 (by intro z;cases z)
 refine e1_2 JHL λ_ hm hr=> ?_
 rename_i items
 have hP:=(JH _ hm).1
 have Fk:=J0v
 have gP:J1s P=none:=(JH _ hm).2.2
 have hgP:J0q≠P:=λq=>by
  refine e3_3 t4 λo es ep e hd _=> ?_
  clear t4
  rw[q,gP] at e;cases e
 have hbP:bm≠P:=λq=>by rw[q,gP] at t7;cases t7
 have hbG:bm≠J0q:=λq=>by
  refine e3_3 t4 λo es ep e hd _=> ?_
  clear t4
  rw[q,e] at t7;cases t7;rw[hd] at t10;cases t10
 refine av (kla_eval rfl ?_)
 refine (hq).symm▸?_
 have hLs:X.L<JM:=R.fr.ns.lt
 have fresh:∀b,X.L<b->J1s b=none:=λb hb=>J4U (JJ J6J (J2y hb))
 cases hca:JED lpos J0P with
 |none=>
  refine kla_makeFunction (s:=At s h t) (c:=c) (P:=P) (ps:=items) (mg:=mg) hcl JB9 (t4.keeps Fk) t1 (t2.keeps Fk) hP hr.triples hca hgP (j3 bm ob t5 t6 hbG hbP (Fk _ _ t7) t8 t9 t10) λc' ctv h' tk hx hge hlt hrec htb=> ?_
  have hrec2:=hrec
  refine e4_4 hrec λc2a oc ws tq e2 hoc hd hv=> ?_
  clear hrec
  cases e2
  have hLc:X.L<c':=J0d hLs hge
  have old:∀b o,b≠P->JN b=some o->(JE6 (J8W "<lambda>" ib dF body scope cl ((mg "__name__").getD .none) c' ctv)).get? b=some o:=λb o hb e=>JY _ (hx b o hb e)
  have nXP:∀b o,J1s b=some o->b≠P:=λb o e q=>by rw[q,gP] at e;cases e
  have lt:∀p∈N,p.1<c':=λp hp=>J0d (Jo (JH p hp).1) hge
  have F':Fr X.g X.L (JE6 (J8W "<lambda>" ib dF body scope cl ((mg "__name__").getD .none) c' ctv)) m:=
   ⟨(R.fr.ns.extBut hx (JH _ hm).2.1.symm).push _,λb o e=>old b o (nXP b o e) (Fk _ _ e),J6J⟩
  have N':News X.g X.L (JE6 (J8W "<lambda>" ib dF body scope cl ((mg "__name__").getD .none) c' ctv)) ((c',oc)::put N P (JAU (items++ #[J3y lpos.line,J3y lpos.col,.ref c']))):=λp hp=>by
   rcases Jf hp with rfl|hp
   ·exact (i_aa (JY _ hoc) (J3c hLc) (fresh _ hLc))
   ·rcases Jf hp with rfl|hp
    ·exact⟨JY _ htb,(JH _ hm).2⟩
    ·exact⟨old _ _ (ui p hp) (JH p (J25 hp).1).1,(JH p (J25 hp).1).2⟩
  have e:Ext (some (.slot 0)) N own ((c',oc)::put N P (JAU (items++ #[J3y lpos.line,J3y lpos.col,.ref c']))) (oU own c' (.slot 0)):=
   ⟨λb o hb hn=>Jk _ (b9 hb λz=>hn (by rw[z,hown])),λb o hb=>fW (J0O (lt _ hb)),λz=>by cases z⟩
  have R':=JET (i:=0) (so':=.tab) e F' N' hρ (by rw[hs];exact JGO _) (.tab (Jk _ bD) ?_) (.inr ((fW (J0O (lt _ hm))).trans hown))
  ·have est:{ st with sl:=JDg 0 .tab }=st:=by rw[hs];show JAs JDh JAV JDi (SO.tab::sl')=st;rw[<- hs]
   rw[est] at R'
   exact hQ _ c' _ ctv _ tk ⟨_,_,_,_,R'⟩ (J09 _ rfl) (hrec2.push _)
  ·rw[J2Y]
   refine ej.snoc (ej.up hr λb o hb hbm hx2=> ?_) JB br hd hv
   have hne:b≠P:=λz=>by
    refine e2_2 hx2 λus tq2 u1 u2=> ?_
    clear hx2
    have e1:=(JH _ hbm).1
    dsimp only at e1
    rw[z,hP] at e1
    clear e hbm
    cases e1
    cases u1
    rw[<- J6A] at u2
    exact hr.second u2
   exact⟨Jk _ (b9 hbm hne),(fW (J0O (lt _ hbm))).trans hb⟩
 |some v=>
  refine e4_4 (hr.hit hca) λc' oc ws tq er0 hoc hd hv=> ?_
  obtain rfl:=er0
  refine kla_makeFunctionHit (s:=At s h t) (c:=c) (P:=P) (ps:=items) (mg:=mg) hcl JB9 (t4.keeps Fk) t1 (t2.keeps Fk) hP hr.triples hca (j3 bm ob t5 t6 hbG hbP (Fk _ _ t7) t8 t9 t10) λctv h' tk hk hsz=> ?_
  have kp:∀b o,JN b=some o->(JE6 (J8W "<lambda>" ib dF body scope cl ((mg "__name__").getD .none) c' ctv)).get? b=some o:=λb o e=>JY _ (hk _ _ e)
  exact hQ _ c' _ ctv _ tk ⟨_,_,_,_,JGN (R.fr.keeps kp) λp hp=>⟨kp _ _ (JH p hp).1,(JH p hp).2⟩⟩ (J09 _ rfl) (bT c' oc ws tq rfl (kp _ _ (JH _ hoc).1) hd hv)
theorem Cx.down {w:World}{A:J7}{env:Env}{Γ:Nm}{X:Fx}{n m:Nat}(C:Cx w A env Γ X n) (h:m<=n):Cx w A env Γ X m:={ C with toAOk:=C.toAOk.down h }
theorem Cx.cellOf {w:World}{A:J7}{env:Env}{Γ:Nm}{X:Fx}{n:Nat}(C:Cx w A env Γ X n) {x:Str}{i j:Nat}(hm:nth Γ.nm j=some (x,J1S)) (hi:nth Γ.cn i=some x):∃c,X.ca[i]? =some c/\J1A x=some c:=
 C.cl i x (by rw[<- aZ];exact hi) (bd hm)
theorem qE {w:World}{Γ:Nm}{X:Fx}{st:St}{T:List EV}{vs:List Value}{h:Heap}{N:Led}{own:Own}{ρ:List Addr}{m:Str->Option Value}(R:aA w Γ X st T vs h N own ρ m) {i:Nat}{c:Addr}(hc:X.ca[i]? =some c) {e:EV}(he:nth JAV i=some (some e)):
  ∃v,h.IsCell c (some v)/\EVR (aI JA N own) ρ e v:=by
 obtain⟨_,o,ov,h1,h2,h3⟩:=R.ce i c hc
 refine e1_2 (h3 e (by rw[<- aZ];exact he)) λv er0 h5=> ?_
 clear h3
 obtain rfl:=er0
 exact (az v (az o ((JH _ h1).1) h2) h5)
theorem i7 {w:World}{A:J7}{env:Env}{Γ:Nm}{X:Fx}{n:Nat}(C:Cx w A env Γ X (n+1)) (ht:Γ.top=true) {body:Expr}{scope:Scope}{lpos p1 p:Pos}{cl:List (Str×Addr)}(hcl:J47 scope env=pure cl) {j:Nat}(hn:nth Γ.nm j=some (("_law_is_refused":Str),J0s))
  {st:St}{T:List EV}{vs:List Value}{s:J1}{h:Heap}{t:Nat}{Q E:Value->J1->Prop}
  (hT:∀f c' pm ctv h,Rel w Γ X st T vs h->JN f=some (J8W "<lambda>" ib dF body scope cl pm c' ctv)->h.CodeRec (.ref c') ib->vr w n f h)
  (H:Rel w Γ X st T vs h) {sl':List SO}(hs:J5=.tab::sl') (hQ:∀v h' t',Rel w Γ X st (.pv (.bool true)::T) (v::vs) h'->Q v (At s h' t')):
  ae (model prog0 w) A (eval (.Call (.Name "_law_is_refused" p1) [.Lambda dF body scope lpos] [] p) env) Q E (At s h t):=by
 refine bR (lD (Γ:=Γ) (n:=n+1) hn (vY 35 rfl) C (P:=λev st'=>st'=st/\ev=.pv (.val (.ref 606))) H ⟨rfl,rfl⟩ λev v st1 h1 t1 H1 hv1=> ?_)
 refine e0_2 hv1 λer0 er1=> ?_
 clear hv1
 clear H
 obtain rfl:=er0
 obtain rfl:=er1
 refine e2_1 JBu λfz ρ z=> ?_
 have e:v=.ref 606:=by cases z with |pv z=>cases z;rfl
 refine J5x▸?_
 refine dA (P:=JCL) rfl (JDx (sk 61 rfl w _ JEq)) (cW (dJ (AT C ht hcl JEh hs λf c' pm ctv h2 t2 H2 hf hc=>dI ⟨H2.keepK J1q,?_⟩)))
 have hA:=(C.topo ht).1
 refine Cb C hA H2 (jC _ _ _ _ hf) (hT _ _ _ _ _ H2 hf hc) C.fr λh3 t3 H3=>hQ _ h3 t3 (H3.push λy y=>.pv (.bool true))
abbrev Dt:Expr:=.Call (.Attribute (.Name "log" ⟨480,8,480,11⟩) "begin_anew" ⟨480,8,480,22⟩) [.Attribute (.Name "log" ⟨480,23,480,26⟩) "chain" ⟨480,23,480,32⟩,.Name "txg" ⟨480,34,480,37⟩] [] ⟨480,8,480,38⟩
def E3 (i k:Nat):VC EV:=λst P=>(∃sl',J5=.tab::sl')/\(∃j as ch txg,nth JAV i=some (some (.loc j))/\nth J5 j=some (.inst 433 as)/\findA 16 as=some (.pv (.int ch))/\nth JAV k=some (some (.pv (.int txg))))/\P (.pv (.bool true)) st
set_option tactic.hygienic true in
theorem yE {Γ:Nm}{n:Nat}{lpos p1 p:Pos}{i k a b j:Nat}(hn:nth Γ.nm j=some (("_law_is_refused":Str),J0s)) (ht:Γ.top=true) (h1:nth Γ.nm a=some (("log":Str),J1S)) (h2:nth Γ.cn i=some ("log":Str)) (h3:nth Γ.nm b=some (("txg":Str),J1S)) (h4:nth Γ.cn k=some ("txg":Str)):
  Sem Γ (n+8) (.Call (.Name "_law_is_refused" p1) [.Lambda dF Dt sg lpos] [] p) (E3 i k):=by
 intro w A env X C st T vs s h t Q E P H hv hQ
 refine e0_3 hv λen0 en1 hP=> ?_
 clear hv
 obtain⟨sl',hs⟩:=en0
 refine e4_4 en1 λjj as ch txg e1 e2 e3 e4=> ?_
 clear en1
 refine e1_2 (JFw h1 h2) λc c1 c2=> ?_
 refine e1_2 (JFw h3 h4) λd d1 d2=> ?_
 refine i7 (n:=6) (C.down (by omega)) ht (F8 c2 d2) hn (λf c' pm ctv h' R hf hc=> ?_) H hs λv h' t' H'=>hQ _ v st h' t' H' hP
 obtain⟨N,own,ρ,m,R⟩:=R
 obtain⟨v1,u1,u2⟩:=qE R c1 e1
 obtain⟨v2,w1,w2⟩:=qE R d1 e4
 obtain⟨tk,rfl⟩:=w2.pvI.inv
 obtain⟨_,rfl,hr⟩:=u2.inv
 rename_i x
 rw[aZ] at e2
 have S:=J96 jj x _ hr e2
 obtain⟨_,_,_,hx,hd,ho,hne,ha⟩:=JHL
 intro A1 env1 Γ1 X1 st1 s1 h1 t1 outer C1 R1 hg hA1
 exact lY (n:=5) hf hc (by rfl) rfl rfl rfl (by decide) (λI=>Au (c:=c) (c2:=d) (by rfl) u1 (by rfl) w1 (JH _ hx).1 (JH _ hd).1 ha (λa o q=>J29 J1q q) e3 I) C1 R1 hg hA1
def E2 (i:Nat) (i1 i2:Int):VC EV:=λst P=>(∃sl',J5=.tab::sl')/\(∃e,nth JAV i=some (some e))/\(i1 - 20 - 16<1∨i2<1)/\P (.pv (.bool true)) st
theorem yD {Γ:Nm}{n:Nat}{lpos p1 p p2 p3 p4 p5 p6 p7:Pos}{i1 i2 i3:Int}{k1 k2 k3:Nat}{i a j:Nat}(hn:nth Γ.nm j=some (("_law_is_refused":Str),J0s)) (ht:Γ.top=true) (h1:nth Γ.nm a=some (("io":Str),J1S)) (h2:nth Γ.cn i=some ("io":Str)):
  Sem Γ (n+8) (.Call (.Name "_law_is_refused" p1) [.Lambda dF (.Call (.Name "IntentLog" p2) [.Name "io" p3,.Constant (.int i1) k1 p4,.Constant (.int i2) k2 p5,.Constant (.int i3) k3 p6] [] p7) sf lpos] [] p) (E2 i i1 i2):=by
 intro w A env X C st T vs s h t Q E P H hv hQ
 refine e0_4 hv λen0 en1 hb hP=> ?_
 clear hv
 obtain⟨sl',hs⟩:=en0
 obtain⟨e,e1⟩:=en1
 refine e1_2 (JFw h1 h2) λc c1 c2=> ?_
 refine i7 (n:=7) (C.down (by omega)) ht (F7 c2) hn (λf c' pm ctv h' R hf hc=> ?_) H hs λv h' t' H'=>hQ _ v st h' t' H' hP
 obtain⟨N,own,ρ,m,R⟩:=R
 obtain⟨v1,u1,u2⟩:=qE R c1 e1
 intro A1 env1 Γ1 X1 st1 s1 h1 t1 outer C1 R1 hg hA1
 exact lY (n:=6) hf hc (by rfl) rfl rfl rfl (by decide) (λI=>Aq (c:=c) (by rfl) u1 hb I) C1 R1 hg hA1
def PE.rf1 {Γ:Nm}{n:Nat}(i k a b j:Nat) {lpos p1 p:Pos}:PE Γ (n+8) (.Call (.Name "_law_is_refused" p1) [.Lambda dF Dt sg lpos] [] p):=
 ⟨_,ckN Γ j "_law_is_refused" .globalImplicit&&(Γ.top&&(ckN Γ a "log" .cell&&(ckS Γ.cn i "log"&&(ckN Γ b "txg" .cell&&ckS Γ.cn k "txg")))),λh=>J5e (yE (aD h) (aL (aR h)) (aD (aR (aR h))) (aD (aR (aR (aR h)))) (aD (aR (aR (aR (aR h))))) (J05 (aR (aR (aR (aR (aR h))))))),λy y=>rfl⟩
def PE.rf2 {Γ:Nm}{n:Nat}(i a j:Nat) {lpos p1 p p2 p3 p4 p5 p6 p7:Pos}{i1 i2 i3:Int}{k1 k2 k3:Nat}:
  PE Γ (n+8) (.Call (.Name "_law_is_refused" p1) [.Lambda dF (.Call (.Name "IntentLog" p2) [.Name "io" p3,.Constant (.int i1) k1 p4,.Constant (.int i2) k2 p5,.Constant (.int i3) k3 p6] [] p7) sf lpos] [] p):=
 ⟨_,ckN Γ j "_law_is_refused" .globalImplicit&&(Γ.top&&(ckN Γ a "io" .cell&&ckS Γ.cn i "io")),λh=>J5e (yD (aD h) (aL (aR h)) (aD (aR (aR h))) (J05 (aR (aR (aR h))))),λy y=>rfl⟩
def mkRows (q:Int) (l:List Rc):List (List UInt8):=lR (β:=Int->List (List UInt8)) (λy=>[]) (λr y f q=>rowB (q+1) r::f (q+1)) l q
theorem uw (q:Int) (a b:List Rc):mkRows q (a++b)=mkRows q a++mkRows (q+J8B) b:=by
 induction a generalizing q with
 |nil=>rw[J30,show q+((0:Nat):Int)=q from J4M q];rfl
 |cons r a ih=>
  show rowB (q+1) r::mkRows (q+1) (a++b)=rowB (q+1) r::(mkRows (q+1) a++mkRows (q+((J8B+1:Nat):Int)) b)
  rw[ih,show q+1+(J8B:Int)=q+((J8B+1:Nat):Int) by exact z11 0x111809e190e1819920]
theorem ia (q:Int) (a:List Rc):(mkRows q a).length=J8B:=by
 induction a generalizing q with
 |nil=>rfl
 |cons r a ih=>exact JD J7C (ih (q+1))
structure LS where
 number:Int
 a:Pt
 ws:List Pt
 blocks:be
 next:Int
 wr:Int
def LS.put (size:Nat) (chain txg:Int) (s:LS) (rows:List UInt8):LS:=
 ⟨J2T+1,⟨0,JP,aq size,size,txg,chain⟩,JCc++[s.a],aY JGr (.bytes (bO chain J2T rows 0 JP (aq size) txg size)) (aY [0,JP,aq size] (.bytes (aQ size)) JU),JP+aq size,J95+1+1⟩
structure LS.ok (size:Nat) (chain:Int) (s:LS) (m:Nat):Prop where
 num:0<=J2T/\J2T+m<1000000
 nxt:0<=JP/\JP+64*m<100000
 bl:J4d+m<=50000
 wl:J6c+m<=1000
 live:(aE JGr JU).isSome=true
 asz:s.a.size=size
 afl:s.a.fill=chain
theorem dT (k:List Int):bY k k=true:=JEG rfl
theorem gF (k:List Int) (q:PV) (es:be):aE k (aY k q es)=some q:=by
 induction es with
 |nil=>show cond (bY k k) _ _=_;rw[dT];rfl
 |cons x r ih=>
  obtain⟨j,x⟩:=x
  rw[e7]
  cases hb:bY j k with
  |true=>show cond (bY j k) _ _=_;rw[hb];rfl
  |false=>show cond (bY j k) _ _=_;rw[hb];exact ih
theorem mc (k:List Int) (q:PV) (es:be):(aE k (aY k q es)).isSome=true:=by rw[gF];rfl
theorem wG (k:List Int) (q:PV) (es:be):(aE k es).isSome=true->(aY k q es).length=J1H:=by
 induction es with
 |nil=>exact λh=>nomatch h
 |cons x r ih=>
  obtain⟨j,x⟩:=x
  intro h
  rw[dO] at h
  rw[e7]
  cases hb:bY j k with
  |true=>rfl
  |false=>rw[hb] at h;exact JD J7C (ih h)
theorem LS.ok.put {size:Nat}{chain txg:Int}{s:LS}{m:Nat}{rows:List UInt8}(h:s.ok size chain (m+1)) (hs:size<=1000):(JGp size chain txg rows).ok size chain m:=by
 have hc:=u4 hs
 have h1:=h.num;have h2:=h.nxt;have h3:=h.bl;have h4:=h.wl
 refine⟨⟨by show 0<=J2T+1;omega,by show J2T+1+(m:Int)<_;exact z11 0x11f42405f80e181991f42405f81809e1911 h1.2⟩,⟨by show 0<=JP+aq size;exact z02 0x111109080008010802 hc.1 h2.1,by show JP+aq size+64*(m:Int)<_;exact z12 0x111186a05f80e402fb21991186a05f81809e402fb191402f8202 hc.2 h2.2⟩,?_,?_,?_,rfl,rfl⟩
 ·have e1:=dv JGr (.bytes (bO chain J2T rows 0 JP (aq size) txg size)) (aY [0,JP,aq size] (.bytes (aQ size)) JU)
  have e2:(aY JGr (.bytes (bO chain J2T rows 0 JP (aq size) txg size)) (aY [0,JP,aq size] (.bytes (aQ size)) JU)).length=(aY [0,JP,aq size] (.bytes (aQ size)) JU).length:=wG _ _ _ (dk _ _ h.live _ _)
  have e3:=dv [0,JP,aq size] (.bytes (aQ size)) JU
  show (aY JGr _ _).length+m<=_
  rw[e2];exact z30 0x111c3504f81098182908c3504f818192982 h3 e3
 ·show (JCc++[s.a]).length+m<=_
  simp;exact z20 0x113e83f811809983e83f818190981 h4
 ·exact dk _ _ (mc _ _ _) _ _
def bH (size:Nat) (chain txg room:Int) (c:LS×List UInt8) (row:List UInt8):LS×List UInt8:=
 if room<c.2.length+J7Y then (c.1.put size chain txg c.2,[]++row) else (c.1,c.2++row)
def pM (size:Nat) (chain txg room:Int) (s:LS) (rows:List (List UInt8)):LS×List UInt8:=rows.foldl (bH size chain txg room) (s,[])
def gx (size:Nat) (chain txg:Int) (c:LS×List UInt8):LS:=match c.2 with
 |[]=>c.1
 |r=>c.1.put size chain txg r
def LS.slots (size:Nat) (chain seq:Int) (gone:be) (s:LS):List SO:=kP size chain J2T seq J7k (J2S Jv) JU gone JP J95
def eg:Nm:=⟨[("self",.local),("records",.local),("txg",.local),("room",.local),("made",.local),("rows",.local),("record",.local),("part",.local),("row",.local),("room_of",.globalImplicit),("parts_of",.globalImplicit),("row_octets",.globalImplicit),("len",.globalImplicit)],false,["self","records","txg","room","made","rows","record","part","row"],[],[],false⟩
theorem iw:aG eg ["self","records","txg"] [some 0,some 1,some 2,none,none,none,none,none,none] [] (ao (mS 52 4)):=aw rfl (by rfl)
def il:PB eg 7 (ay (mS 52 4)):=
 (.con (.asW (names:=["room","made","rows"]) (.loc 5 5 (.loc 4 4 (.loc 3 3 .nil))) (.con (.fn 9 18 30 (J4 (n:=7) (J3 jG (by decide))) (.con (.att 4 15 (.loc 0 0)) .nil)) (.con (.lsS .nil) (.con .byt .nil))))
  (.con (.fr (.of (.loc 1 1) (.loc 6 6)) (.con (.fr (.of (.fn 10 14 24 (J4 (n:=7) (J3 uJ (by decide))) (.con (.loc 6 6) (.con (.loc 3 3) .nil))) (.loc 7 7)) (.con (.exp (.bm k9 (.loc 4 4) (.con (.fn 11 11 21 (J4 (n:=7) (J3 qc (by decide))) (.con (.bin aH (.bin aH (.att 4 18 (.loc 0 0)) .int) (.bf 12 cv (.con (.loc 4 4) .nil))) (.con (.loc 7 7) .nil))) .nil)))
  .nil))
  .nil))
  (.con (.fr (.of (.loc 4 4) (.loc 8 8)) (.con (.iff (.cmp iN (.bin aH (.bf 12 cv (.con (.loc 5 5) .nil)) (.bf 12 cv (.con (.loc 8 8) .nil))) (.loc 3 3)) (.con (.exp (.me 4 15 36 none (J4 (n:=7) (J3 c7 (by decide))) (.loc 0 0) (.con (.loc 5 5) (.con (.loc 2 2) .nil))))
  (.con (.asg (.loc 5 5) .byt)
  .nil)) .nil)
  (.con (.asg (.loc 5 5) (.bin aH (.loc 5 5) (.loc 8 8)))
  .nil)))
  (.con (.iff (.cmp eH (.loc 5 5) .byt) (.con (.exp (.me 4 15 36 none (J4 (n:=7) (J3 c7 (by decide))) (.loc 0 0) (.con (.loc 5 5) (.con (.loc 2 2) .nil))))
  .nil) .nil)
  (.con (.asg (.att 4 18 (.loc 0 0)) (.bin aH (.att 4 18 (.loc 0 0)) (.bf 12 cv (.con (.loc 4 4) .nil))))
  (.con (.ret (.att 4 18 (.loc 0 0)))
  .nil))))))
def flat (room:Int) (rs:List Rc):List Rc:=(J6O (parts room)).flatten
theorem o3 {room:Int}{rs:List Rc}{k:Nat}{r:Rc}(h:rs[k]? =some r):flat room (J3V (k+1))=flat room (J3V k)++parts room r:=by
 unfold flat
 rw[J0j,h,Ji,J0u]
 show _++(J7E (parts room) [r]).flatten=_
 rw[J2s,J42]
theorem xn {room:Int}{ps:List Rc}:∀{q:Int},(∀p∈ps,p.ok/\JDq<256/\(J2m:Int)<=room)->∀b∈mkRows q ps,(J2:Int)<=room:=by
 induction ps with
 |nil=>exact λy y h=>nomatch h
 |cons p ps ih=>
  intro q hp b h
  rcases Jf h with rfl|h
  ·rw[bS];exact (hp p JB).2.2
  ·exact ih (λp h=>hp p (Jk _ h)) b h
structure wu (size:Nat) (chain seq txg:Int) (s:LS) (rs:List Rc):Prop where
 recs:∀r∈rs,JEz/\i6 (size - 20 - 16) r
 par:∀p∈flat (size - 20 - 16) rs,p.ok/\JDq<256/\(J2m:Int)<=size - 20 - 16
 few:J5n<=10
 fewp:(flat (size - 20 - 16) rs).length<=100
 seq:0<=seq/\seq<1000000
 st:s.ok size chain ((flat (size - 20 - 16) rs).length+1)
 size:37<=size/\size<=1000
 chain:0<=chain/\chain<1000000
 txg:0<=txg/\txg<1000000
theorem gU {room:Int}{rs:List Rc}{k:Nat}:(flat room (J3V k)).length<=(flat room rs).length:=by
 unfold flat
 conv=>rhs;rw[<- JAv k rs]
 rw[Ji,J0u,JO]
 exact J2f _ _
inductive zf (as:List EV) (sl:List SO) (P:EV->List SO->Prop):Prop
 |mk (size:Nat) (chain seq txg:Int) (gone:be) (s:LS) (rs:List Rc) (h0:as=[.loc 0,.pv (.lst (J6O J6L)),.pv (.int txg)]) (h1:sl=JBW size chain seq gone) (h2:wu size chain seq txg s rs) (h3:P (.pv (.int (seq+((flat (size - 20 - 16) rs).length:Nat)))) ((gx size chain txg (pM size chain txg (size - 20 - 16) s (mkRows seq (flat (size - 20 - 16) rs)))).slots size chain (seq+((flat (size - 20 - 16) rs).length:Nat)) gone))
theorem d8:ac 8 416 3 zf:=ar (kFn 41 rfl) iw aJ il (by
 rintro _ _ P _ ⟨size,chain,seq,txg,gone,s,rs,rfl,rfl,H,hP⟩
 refine (ax rfl rfl rfl ⟨_,rfl,rfl,by decide,rfl,⟨λk st=>∃x y z,st=⟨[some (.loc 0),some (.pv (.lst (J6O J6L))),some (.pv (.int txg)),some (.pv (.int (size - 20 - 16))),some (.loc 5),some (.pv (.bytes [])),x,y,z],[],[],JBW size chain seq gone++[.list ((mkRows seq (flat (size - 20 - 16) (J3V k))).map .bytes)]⟩,(Du none none none rfl),?_,?_⟩⟩)
 ·intro k x _ hx hq9 K hK
  refine e3_1 hq9 λx1 y1 z1 er0=> ?_
  clear hq9
  obtain rfl:=er0
  have hx:(bt (J6O J6L))[k]? =some x:=hx
  rw[au,JR] at hx
  refine e1_2 (Jw hx) λr hr er0=> ?_
  obtain rfl:=er0
  have hm:=H.recs r (J01 hr)
  have hft:=o3 (room:=size - 20 - 16) hr
  have hfl:=gU (room:=size - 20 - 16) (rs:=rs) (k:=k+1)
  refine⟨rfl,rfl,r,_,rfl,rfl,hm,λj st=>∃y z,st=⟨[some (.loc 0),some (.pv (.lst (J6O J6L))),some (.pv (.int txg)),some (.pv (.int (size - 20 - 16))),some (.loc 5),some (.pv (.bytes [])),some (.pv JG4),y,z],[],[],JBW size chain seq gone++[.list ((mkRows seq (flat (size - 20 - 16) (J3V k)++(parts (size - 20 - 16) r).take j)).map .bytes)]⟩,(ic y1 z1 ?_),?_,?_⟩
  ·rw[JF8,J0e];rfl
  ·intro j x _ hx hq9 L hL'
   refine e2_1 hq9 λy2 z2 er1=> ?_
   clear hq9
   obtain rfl:=er1
   have hx:(bt ((parts (size - 20 - 16) r).map J6L))[j]? =some x:=hx
   rw[au,JR] at hx
   refine e1_2 (Jw hx) λp hp er1=> ?_
   clear hx
   obtain rfl:=er1
   have hpm:p∈flat (size - 20 - 16) rs:=JBP (az _ (J1o (az r (J01 hr) rfl)) (J01 hp))
   have hpo:=H.par p hpm
   have hlt:=(J04 hp).1
   have hseq:=H.seq
   have hfw:=JGe
   have hL:((mkRows seq (flat (size - 20 - 16) (J3V k)++(parts (size - 20 - 16) r).take j)).map J37).length<=100:=by
    rw[J6,ia,JO,J0k]
    rw[hft,JO] at hfl
    exact z50 0x100111110111642f81098241c642f838320983 hfl hfw fM
   have e:(mkRows seq (flat (size - 20 - 16) (J3V k)++(parts (size - 20 - 16) r).take (j+1))).map J37=(mkRows seq (flat (size - 20 - 16) (J3V k)++(parts (size - 20 - 16) r).take j)).map J37++[.bytes (rowB (seq+1+((((mkRows seq (flat (size - 20 - 16) (J3V k)++(parts (size - 20 - 16) r).take j)).map J37).length:Nat):Int)) p)]:=by
    rw[J0j,hp,<- J0U,uw seq _ (some p).toList,Ji,J6,ia]
    show _++[J37 (rowB (seq+_+1) p)]=_
    rw[Int.add_right_comm]
   refine (cM rfl rfl rfl rfl (by omega) rfl ⟨_,p,rfl,rfl,(ax hpo.1 (by exact z11 0x110e1819908010801 hseq.1) (by exact z11 0x1111000000009f80e181991642f808f42405f8112 hseq.2 hL) hpo.2.1),by omega,hL' _ (ic (some (.pv p.pv)) z2 ?_)⟩)
   rw[e];rfl
  ·intro st2 hq9
   refine e2_1 hq9 λy2 z2 e3=> ?_
   clear hq9
   have e2:(parts (size - 20 - 16) r).take (bt ((parts (size - 20 - 16) r).map J6L)).length=parts (size - 20 - 16) r:=by rw[au,J6,J0a]
   have e4:=J74 (JD (λl=>JAs _ _ _ (JBW size chain seq gone++[.list ((mkRows seq (flat (size - 20 - 16) (J3V k)++l)).map .bytes)])) e2)
   subst e4
   refine⟨rfl,hK _ (Du (some (.pv JG4)) y2 z2 ?_)⟩
   rw[hft]
 ·intro st2 hq9
  refine e3_1 hq9 λx1 y1 z1 e3=> ?_
  clear hq9
  have e2:J3V (bt (J6O J6L)).length=rs:=by rw[au,J6,J0a]
  have e4:=J74 (JD (λl=>JAs _ _ _ (JBW size chain seq gone++[.list ((mkRows seq (flat (size - 20 - 16) l)).map .bytes)])) e2)
  subst e4
  have hn:(mkRows seq (flat (size - 20 - 16) rs)).length=(flat (size - 20 - 16) rs).length:=ia _ _
  have hrow:∀b∈mkRows seq (flat (size - 20 - 16) rs),(J2:Int)<=size - 20 - 16:=xn H.par
  generalize hmk:mkRows seq (flat (size - 20 - 16) rs)=made at hP hn hrow
  have hst:=H.st
  rw[<- hn] at hst hP
  have hfw:=JGe
  rw[<- hn] at hfw
  have hch:=H.chain
  have htx:=H.txg
  have hsz:=H.size
  refine⟨rfl,⟨λk st=>∃c:LS×List UInt8,∃x y z,c=pM size chain txg (size - 20 - 16) s (JDt k)/\c.1.ok size chain (J1j+1 - k)/\(c.2.length:Int)<=size - 20 - 16/\
   st=⟨[some (.loc 0),some (.pv (.lst (J6O J6L))),some (.pv (.int txg)),some (.pv (.int (size - 20 - 16))),some (.loc 5),some (.pv (.bytes c.2)),x,y,z],[],[],c.1.slots size chain seq gone++[.list (J88 .bytes)]⟩,(bT (s,[]) x1 y1 z1 rfl hst (by show (0:Int)<=_;omega) rfl),?_,?_⟩⟩
  ·intro k x _ hx hq9 K hK
   refine e4_4 hq9 λen2 x2 y2 z2 hc hok hlen er3=> ?_
   clear hq9
   obtain⟨⟨number,⟨v,p,cc,sz,birth,fl⟩,ws,blocks,next,wr⟩,rows⟩:=en2
   obtain rfl:=er3
   have hx:(bt (J88 .bytes))[k]? =some x:=hx
   rw[au,JR] at hx
   refine e1_2 (Jw hx) λrow hr er2=> ?_
   clear e3 hx
   obtain rfl:=er2
   have hrl:=hrow row (J01 hr)
   have hlt:=(J04 hr).1
   obtain rfl:sz=size:=hok.asz
   obtain rfl:chain=fl:=JGB
   have hlen:(J0R:Int)<=size - 20 - 16:=hlen
   have hnum:0<=number/\number+((J1j+1 - k:Nat):Int)<1000000:=hok.num
   have hnxt:0<=next/\next+64*((J1j+1 - k:Nat):Int)<100000:=hok.nxt
   have hbl:J1Q+(J1j+1 - k)<=50000:=hok.bl
   have hwl:Jx+(J1j+1 - k)<=1000:=hok.wl
   have hstep:bH size chain txg (size - 20 - 16) (⟨number,⟨v,p,cc,size,birth,chain⟩,ws,blocks,next,wr⟩,rows) row=pM size chain txg (size - 20 - 16) s (JDt (k+1)):=by
    rw[hc,J0j,hr]
    unfold pM
    rw[J7i];rfl
   by_cases hbig:((size:Int) - 20 - 16)<J0R+J7Y
   ·have hstep2:=hstep
    rw[bH,JC hbig] at hstep2
    refine (ax rfl (by show J0R<=_;exact z20 0x111100005f808102f8142f81eaa0e03e83f8182 hsz.2 hlen) (by show J7Y<=_;exact z20 0x111100005f808102f8142f81eaa0e03e83f8182 hsz.2 hrl) (cw (Jq hbig) ?_))
    refine (ax rfl trivial rfl ⟨size,chain,number,seq,v,p,cc,birth,J5k Jv,blocks,gone,next,wr,txg,rows,rfl,rfl,(d7 (by exact z01 0x1101011000000009f80100804f42405f80100802 hch.1 hch.2) (by exact z11 0x11010110000007f81110804f42405f80e19110802 hnum.1 hnum.2) (by exact z11 0x110101186a05f81110804186a05f80e402fb19110802 hnxt.1 hnxt.2) (by exact z01 0x1101011000000009f80100804f42405f80100802 htx.1 htx.2) (by exact z20 0x111102f80142f8998102f8142f81eaa0e01 hlen) (by omega) (by exact z20 0x11ea604f808c3504f810981 hbl) (by rw[J6];exact z20 0x113e83f8083e83f810981 hwl) JFO),?_⟩)
    refine⟨by show [].length+J7Y<=_;simp [bc];exact z20 0x111100005f808102f8142f81eaa0e03e83f8182 hsz.2 hrl,hK _ (bT _ x2 y2 (some (.pv (.bytes row))) hstep2 ?_ (by show (([]++row:List UInt8).length:Int)<=_;simpa using hrl) ?_)⟩
    ·rw[show J1j+1 - k=(J1j+1 - (k+1))+1 by exact z40 0x100100001001000100100010010100001010000111001010110018190a182918391b218390b3293 hlt fS fS] at hok
     exact hok.put hsz.2
    ·simp only [JEd,LS.slots,kP,Ah,Ji];rfl
   ·have hstep2:=hstep
    rw[bH,JL hbig] at hstep2
    refine (ax rfl (by show J0R<=_;exact z20 0x111100005f808102f8142f81eaa0e03e83f8182 hsz.2 hlen) (by show J7Y<=_;exact z20 0x111100005f808102f8142f81eaa0e03e83f8182 hsz.2 hrl) (bu (J0K hbig) ?_))
    refine⟨by simp [bc];exact z30 0x1112100005f81098102f8142f82eaa0e0102f8142f82eaa1e03e83f8283 hsz.2 hrl hlen,hK _ (bT _ x2 y2 (some (.pv (.bytes row))) hstep2 ?_ (by show ((rows++row).length:Int)<=_;rw[JO];exact z30 0x11102f8142f82eaa109e01e0e9102f8142f82eaa131 hbig) rfl)⟩
    exact⟨⟨hnum.1,by show number+((J1j+1 - (k+1):Nat):Int)<_;exact z41 0x1010001110000111110011110011f42405f80e491318291b183918290bf42405f81e4913 hnum.2 fS fS⟩,⟨hnxt.1,by show next+64*((J1j+1 - (k+1):Nat):Int)<_;exact z41 0x10402f000402f110000402f11402f402f00402f11402f00402f1186a05f80e402fb491318291b183918290b186a05f81e402fb4913 hnxt.2 fS fS⟩,by show J1Q+(J1j+1 - (k+1))<=_;exact z50 0x1010001110000111110011110011c3504f81098418392b184918391bc3504f820983 hbl fS fS,by show Jx+(J1j+1 - (k+1))<=_;exact z50 0x10100011100001111100111100113e83f81098418392b184918391b3e83f820983 hwl fS fS,JFO,rfl,rfl⟩
  ·intro st2 hq9
   refine e4_4 hq9 λen4 x2 y2 z2 hc hok hlen er5=> ?_
   clear hq9
   obtain⟨⟨number,⟨v,p,cc,sz,birth,fl⟩,ws,blocks,next,wr⟩,rows⟩:=en4
   obtain rfl:=er5
   have e2:(bt (J88 J37)).length=J1j:=by rw[au,J6]
   replace hc:=hc.trans (show pM size chain txg (size - 20 - 16) s (JDt (bt (J88 J37)).length)=pM size chain txg (size - 20 - 16) s made by rw[e2,J0a])
   replace hok:LS.ok size chain ⟨number,⟨v,p,cc,sz,birth,fl⟩,ws,blocks,next,wr⟩ 1:=by
    have h0:LS.ok size chain ⟨number,⟨v,p,cc,sz,birth,fl⟩,ws,blocks,next,wr⟩ (J1j+1 - (bt (J88 J37)).length):=hok
    rw[e2,JA5] at h0;exact h0
   obtain rfl:sz=size:=hok.asz
   obtain rfl:chain=fl:=JGB
   have hlen:(J0R:Int)<=size - 20 - 16:=hlen
   have hnum:0<=number/\number+((1:Nat):Int)<1000000:=hok.num
   have hnxt:0<=next/\next+64*((1:Nat):Int)<100000:=hok.nxt
   have hbl:J1Q+1<=50000:=hok.bl
   have hwl:Jx+1<=1000:=hok.wl
   have hl:(J88 J37).length=J1j:=J6 _
   rw[<- hc,<- hl] at hP
   cases rows with
   |nil=>exact⟨rfl,(dR rfl rfl (by exact z20 0x1011100005f80810a642f8182 hfw hl) rfl rfl rfl rfl hP)⟩
   |cons b0 rows=>
    refine⟨rfl,(ax rfl trivial rfl ⟨size,chain,number,seq,v,p,cc,birth,J5k Jv,blocks,gone,next,wr,txg,b0::rows,rfl,rfl,(d7 (by exact z01 0x1101011000000009f80100804f42405f80100802 hch.1 hch.2) (by exact z01 0x11010110000007f80100804f42405f818e09100802 hnum.1 hnum.2) (by exact z01 0x110101186a05f80100804186a05f818e402fb09100802 hnxt.1 hnxt.2) (by exact z01 0x1101011000000009f80100804f42405f80100802 htx.1 htx.2) (by exact z20 0x111102f80142f8998102f8142f81eaa0e01 hlen) (by omega) (by exact z10 0x11ea604f808c3504f8180981 hbl) (by rw[J6];exact z10 0x113e83f8083e83f8180981 hwl) JFO),?_⟩)⟩
    refine (dR rfl rfl (by exact z20 0x1011100005f80810a642f8182 hfw hl) rfl rfl rfl rfl ?_)
    simp only [gx,JEd,LS.slots,kP,Ah,Ji] at hP
    exact hP)
def da (b:List UInt8) (chain number:Int):Option (List UInt8×Pt):=
 if kM (J4x (J2 - 16))=J6S (J2 - 16) then
  if leV (sub (J4x (J2 - 16)) 0 4)=chain/\leV (sub (J4x (J2 - 16)) 4 3)=number then
   if leV (sub (J4x (J2 - 16)) 7 2)<=(J2:Int) - 36 then
    some (sub (J4x (J2 - 16)) 20 (leV (sub (J4x (J2 - 16)) 7 2)).toNat,
     ⟨leV (sub (J4x (J2 - 16)) 9 1),leV (sub (J4x (J2 - 16)) 10 4),leV (sub (J4x (J2 - 16)) 14 2),J2,leV (sub (J4x (J2 - 16)) 16 4),chain⟩)
   else none
  else none
 else none
def Gb:Option (List UInt8×Pt)->PV
 |none=>.none
 |some (rows,q)=>.tup [.bytes rows,JG6]
def na:Nm:=⟨[("octets",.local),("chain",.local),("number",.local),("size",.local),("cursor",.local),("many",.local),("place",.local),("following",.local),("len",.globalImplicit),("LOG_HEAD",.globalImplicit),("LOG_SUM",.globalImplicit),("sum_octets",.globalImplicit),("Cursor",.globalImplicit),("log_pointer",.globalImplicit)],false,["octets","chain","number","size","cursor","many","place","following"],[],[],false⟩
theorem vE:aG na ["octets","chain","number"] [some 0,some 1,some 2,none,none,none,none,none] [] (ao (aB 55)):=aw rfl (by rfl)
def uX:PB na 5 (ay (aB 55)):=
 (.con (.asg (.loc 3 3) (.bf 8 cv (.con (.loc 0 0) .nil)))
  (.con (.iff (.or (.cmp iM (.loc 3 3) (.bin aH (.gli 9 55) (.gli 10 56))) (.or (.cmp eH (.fn 11 19 31 (J4 (n:=5) (J3 iW (by decide))) (.con (.slc (.loc 0 0) .non (.som (.bin cz (.loc 3 3) (.gli 10 56)))) .nil)) (.slc (.loc 0 0) (.som (.bin cz (.loc 3 3) (.gli 10 56))) .non)) .or0)) (.con (.ret .non)
  .nil) .nil)
  (.con (.asg (.loc 4 4) (.fn 12 41 67 (bC (n:=4) (J3 fy (by decide)) (eI 1 rfl) (d6 5 rfl)) (.con (.slc (.loc 0 0) .non (.som (.bin cz (.loc 3 3) (.gli 10 56)))) .nil)))
  (.con (.iff (.or (.cmp eH (.me 1 8 12 (some 17) (J4 (n:=5) (J3 aM (by decide))) (.loc 4 4) (.con .int .nil)) (.loc 1 1)) (.or (.cmp eH (.me 1 8 12 (some 17) (J4 (n:=5) (J3 aM (by decide))) (.loc 4 4) (.con .int .nil)) (.loc 2 2)) .or0)) (.con (.ret .non)
  .nil) .nil)
  (.con (.asg (.loc 5 5) (.me 1 8 12 (some 17) (J4 (n:=5) (J3 aM (by decide))) (.loc 4 4) (.con .int .nil)))
  (.con (.asg (.loc 6 6) (.tup (.con (.me 1 8 12 (some 17) (J4 (n:=5) (J3 aM (by decide))) (.loc 4 4) (.con .int .nil)) (.con (.me 1 8 12 (some 17) (J4 (n:=5) (J3 aM (by decide))) (.loc 4 4) (.con .int .nil)) (.con (.me 1 8 12 (some 17) (J4 (n:=5) (J3 aM (by decide))) (.loc 4 4) (.con .int .nil)) .nil)))))
  (.con (.asg (.loc 7 7) (.fn 13 21 40 (J4 (n:=5) (J3 nW (by decide))) (.con (.loc 6 6) (.con (.loc 3 3) (.con (.me 1 8 12 (some 17) (J4 (n:=5) (J3 aM (by decide))) (.loc 4 4) (.con .int .nil)) (.con (.loc 1 1) .nil))))))
  (.con (.ret (.ife (.cmp iN (.loc 5 5) (.me 1 6 10 none (J4 (n:=5) (J3 eC (by decide))) (.loc 4 4) .nil)) .non (.tup (.con (.me 1 7 11 none (J4 (n:=5) (J3 dr (by decide))) (.loc 4 4) (.con (.loc 5 5) .nil)) (.con (.loc 7 7) .nil)))))
  .nil))))))))
inductive ue (as:List EV) (sl:List SO) (P:EV->List SO->Prop):Prop
 |mk (b:List UInt8) (chain number:Int) (h0:as=[.pv (.bytes b),.pv (.int chain),.pv (.int number)]) (h1:sl=[]) (h2:(36<=J2/\J2<=1000)) (h3:P (.pv (Gb (da b chain number))) [])
theorem uL:ac 6 451 3 ue:=ar (kFn 45 rfl) vE aJ uX (by
 rintro _ _ P _ ⟨b,chain,number,rfl,rfl,⟨h1,h2⟩,hP⟩
 have hbl:(J4x (J2 - 16)).length=J2 - 16:=by rw[J0k];exact z30 0x110100010000011001000101000001000101000110010010100010a210c102f821b2 fS fM
 have es:((J2:Int) - 16)=((J2 - 16:Nat):Int):=by exact z20 0x100101001110010101e102f80ea2102f801b0242f882 h1 fS
 refine⟨by omega,bu (J0K (by exact z10 0x11102f8142f890e130242f881 h1)) ⟨by omega,?_⟩⟩
 rw[es,mx (by exact z20 0x1101080e102f81ea21 es)]
 refine⟨rfl,_,rfl,rfl,by exact z30 0x1100113e83f8082e102f81ea220a3e83f8183 h2 hbl es,by omega,?_⟩
 rw[es,Bf (by exact z20 0x1101080e102f81ea21 es)]
 unfold da at hP
 by_cases hs:kM (J4x (J2 - 16))=J6S (J2 - 16)
 ·rw[JC hs] at hP
  refine bu (by rw[hs];simp) (⟨by omega,?_⟩)
  rw[es,mx (by exact z20 0x1101080e102f81ea21 es)]
  generalize J4x (J2 - 16)=body at hP hbl
  refine⟨rfl,_,rfl,rfl,rfl,?_⟩
  refine (ax rfl rfl rfl ⟨body,0,4,rfl,rfl,(i_aa (by exact z30 0x101101ea604f80820a2e102f81ea23e83f8183 h2 es hbl) (by exact z30 0x110011048820a2e102f81ea21242f883 h1 es hbl) (by decide)),?_⟩)
  by_cases hc:leV (sub body 0 4)=chain
  ·refine bu (by simp [hc]) (ax rfl rfl rfl ⟨body,4,3,rfl,rfl,(i_aa (by exact z30 0x101101ea604f80820a2e102f81ea23e83f8183 h2 es hbl) (by exact z30 0x110011078820a2e102f81ea21242f883 h1 es hbl) (by decide)),?_⟩)
   by_cases hn:leV (sub body 4 3)=number
   ·rw[JC ⟨hc,hn⟩] at hP
    refine bu (by show ((leV (sub body 4 3)==number)==false)=false;simp [hn]) (?_)
    refine (ax rfl rfl rfl ⟨body,7,2,rfl,rfl,(i_aa (by exact z30 0x101101ea604f80820a2e102f81ea23e83f8183 h2 es hbl) (by exact z30 0x110011098820a2e102f81ea21242f883 h1 es hbl) (by decide)),?_⟩)
    refine (ax rfl rfl rfl ⟨body,9,1,rfl,rfl,(i_aa (by exact z30 0x101101ea604f80820a2e102f81ea23e83f8183 h2 es hbl) (by exact z30 0x1100110a8820a2e102f81ea21242f883 h1 es hbl) (by decide)),?_⟩)
    refine (ax rfl rfl rfl ⟨body,10,4,rfl,rfl,(i_aa (by exact z30 0x101101ea604f80820a2e102f81ea23e83f8183 h2 es hbl) (by exact z30 0x1100110e8820a2e102f81ea21242f883 h1 es hbl) (by decide)),?_⟩)
    refine (ax rfl rfl rfl ⟨body,14,2,rfl,rfl,(i_aa (by exact z30 0x101101ea604f80820a2e102f81ea23e83f8183 h2 es hbl) (by exact z30 0x1100110102f8820a2e102f81ea21242f883 h1 es hbl) (by decide)),by simp,?_⟩)
    refine (ax rfl rfl rfl ⟨body,16,4,rfl,rfl,(i_aa (by exact z30 0x101101ea604f80820a2e102f81ea23e83f8183 h2 es hbl) (by exact z30 0x1100110142f8820a2e102f81ea21242f883 h1 es hbl) (by decide)),rfl,_,_,_,_,_,_,rfl,rfl,?_⟩)
    refine (ax rfl trivial rfl ⟨body,20,rfl,rfl,by exact z30 0x101101ea604f80820a2e102f81ea23e83f8183 h2 es hbl,?_⟩)
    by_cases hm:leV (sub body 7 2)<=(J2:Int) - 36
    ·rw[JC hm] at hP
     refine bu (J0K (by show ¬((JHH:Int) - 20<leV (sub body 7 2));exact z31 0x1110013142f80ea13242f81ea3020a2e102f81ea23 es hbl hm)) (ax rfl trivial rfl ⟨body,20,(leV (sub body 7 2)).toNat,?_,rfl,⟨by exact z30 0x101101ea604f80820a2e102f81ea23e83f8183 h2 es hbl,by exact z31 0x1001010011100111001003142f89837242f81ea3020a2e102f81ea21242f885 h1 es hbl hm fT⟩,by simp,hP⟩)
     show [JGg 0,EV.pv (J3G (leV (sub body 7 2)))]=_
     rw[J2X (fe (sub body 7 2))]
    ·rw[JL hm] at hP
     exact cw (Jq (by show ((JHH:Int) - 20<leV (sub body 7 2));exact z31 0x1101103142f80ea1242f81ea30320a2e102f81ea23 es hbl hm)) hP
   ·rw[JL (λz=>hn z.2)] at hP
    exact cw (by show ((leV (sub body 4 3)==number)==false)=true;simpa using hn) (hP)
  ·rw[JL (λz=>hc z.1)] at hP
   exact cw (by simpa using hc) (hP)
 ·rw[JL hs] at hP
  exact cw (by simpa using hs) (hP))
inductive ew (blocks:be) (fill:Int):Nat->Pt->List (Pt×List UInt8)->Prop where
 |stop {k:Nat}{q:Pt}{b:List UInt8}(h:aE [q.v,q.p,q.c] blocks=some (.bytes b)) (hs:J7m=(J2:Nat)) (hl:36<=J2/\J2<=1000) (e:da b fill k=none):ew blocks fill k q []
 |step {k:Nat}{q q':Pt}{b rows:List UInt8}{l:List (Pt×List UInt8)}(h:aE [q.v,q.p,q.c] blocks=some (.bytes b)) (hs:J7m=(J2:Nat)) (hl:36<=J2/\J2<=1000) (e:da b fill k=some (rows,q')) (r:ew blocks fill (k+1) q' l):ew blocks fill k q ((q,rows)::l)
def f6 (x:Pt×List UInt8):PV:=.tup [x.1.pv,.bytes x.2]
def m9:Nm:=⟨[("io",.local),("head",.local),("found",.local),("pointer",.local),("told",.local),("block_of",.globalImplicit),("len",.globalImplicit),("Corrupt",.globalImplicit)],false,["io","head","found","pointer","told"],[],[],false⟩
theorem vD:aG m9 ["io","head"] [some 0,some 1,none,none,none] [] (ao (aB 56)):=aw rfl (by rfl)
def uW:PB m9 6 (ay (aB 56)):=
 (.con (.asW (names:=["found","pointer"]) (.loc 3 3 (.loc 2 2 .nil)) (.con (.lsS .nil) (.con (.loc 1 1) .nil)))
  (.con (.whi (.cmp lV (.loc 3 3) .non) (.con (.try (.con (.asg (.loc 4 4) (.fn 5 22 41 (J4 (n:=6) (J3 uL (by decide))) (.con (.me 5 22 49 none (J4 (n:=6) (J3 et (by decide))) (.loc 0 0) (.con (.loc 3 3) .nil)) (.con (.att 3 12 (.loc 1 1)) (.con (.bf 6 cv (.con (.loc 2 2) .nil)) .nil)))))
  .nil))
  (.con (.iff (.cmp zV (.loc 4 4) .non) (.con (.ret (.fz (.loc 2 2)))
  .nil) .nil)
  (.con (.exp (.bm k9 (.loc 2 2) (.con (.tup (.con (.loc 3 3) (.con (.sub (.loc 4 4) .int) .nil))) .nil)))
  (.con (.asg (.loc 3 3) (.sub (.loc 4 4) .int))
  .nil)))))
  (.con (.ret (.fz (.loc 2 2)))
  .nil)))
inductive ud (as:List EV) (sl:List SO) (P:EV->List SO->Prop):Prop
 |mk (blocks gone:be) (next wr:Int) (q:Pt) (l:List (Pt×List UInt8)) (h0:as=[.loc 0,.pv JG6]) (h1:sl=bI blocks gone next wr) (h2:(ew blocks J5a 0 q l/\JV<=1000)) (h3:P (.pv (.lst (JE f6))) (bI blocks gone next wr))
theorem ew.inv {blocks:be}{fill:Int}{k:Nat}{p:Pt}{l:List (Pt×List UInt8)}(h:ew blocks fill k p l):∃b,p.pv=ptr p.v p.p p.c (J2:Nat) p.birth p.fill/\(aE [p.v,p.p,p.c] blocks=some (.bytes b)/\J2<=1000)/\(36<=J2/\J2<=1000)/\
  ((da b fill k=none/\l=[])∨∃q rows r,da b fill k=some (rows,q)/\l=(p,rows)::r/\ew blocks fill (k+1) q r):=by
 cases h with
 |stop h hs hl e=>exact (ie _ (by unfold Jv;rw[hs]) ⟨h,hl.2⟩ hl (.inl ⟨e,rfl⟩))
 |step h hs hl e r=>exact (ie _ (by unfold Jv;rw[hs]) ⟨h,hl.2⟩ hl (.inr (cC _ _ _ e rfl r)))
theorem mj:ac 7 458 2 ud:=ar (kFn 46 rfl) vD aJ uW (by
 rintro _ _ P _ ⟨blocks,gone,next,wr,q,l,rfl,rfl,⟨h,hl⟩,hP⟩
 refine⟨by decide,rfl,λk st=>∃(done rest:List (Pt×List UInt8)) (p:Pt) (x:Option EV),J3W=k/\ew blocks J5a JBg p rest/\l=done++rest/\st=⟨[some (.loc 0),some (.pv JG6),some (.loc 3),some (.pv p.pv),x],[],[],bI blocks gone next wr++[.list (JCH f6)]⟩,JV,⟨[],l,q,none,rfl,h,rfl,rfl⟩,?_⟩
 intro k st hJ
 refine e4_4 hJ λdone rest p x hk hr hd er=> ?_
 refine e1_4 hr.inv λb hp h1 h3 hor=> ?_
 have hdl:JBg<=1000:=by rw[hd,JO] at hl;exact z20 0x113e83f8083e83f810981 hl
 have hdm:(JCH f6).length<65536:=by rw[J6];exact J2q hdl (by decide)
 clear h hl hr hJ
 subst er
 refine (ax rfl trivial rfl ⟨blocks,gone,next,wr,p.v,p.p,p.c,p.birth,p.fill,b,by rw[hp],rfl,h1,(bv rfl rfl (J2y hdm) rfl ⟨b,J5a,_,rfl,rfl,h3,?_⟩)⟩)
 rw[J6]
 refine J3a hor (λh=> ?_) λh=> ?_
 ·refine e0_2 h λe hz=> ?_
  refine (e).symm▸?_
  rw[hd,hz,J0e] at hP
  exact hP
 ·refine e3_3 h λq' rows l' e hz hr'=> ?_
  have hk':JAf<k:=by rw[<- hk,hz];exact J1n _
  refine (e).symm▸?_
  refine⟨rfl,⟨(ax ⟨by decide,by decide⟩ (by simp) hdm ⟨(v4 ⟨by decide,by decide⟩ JAf hk' (bT (done++[(p,rows)]) l' q' (some (.pv (Gb (some (rows,q'))))) rfl ?_ ?_ ?_))⟩)⟩⟩
  ·rw[JO];exact hr'
  ·rw[hd,hz,J0U];rfl
  ·rw[Ji];rfl)
def pd:Nm:=⟨[("octets",.local),("cursor",.local),("found",.local),("Cursor",.globalImplicit),("row_at",.globalImplicit)],false,["octets","cursor","found"],[],[],false⟩
theorem yd:aG pd ["octets"] [some 0,none,none] [] (ao (aB 57)):=aw rfl (by rfl)
def xJ:PB pd 6 (ay (aB 57)):=
 (.con (.asW (names:=["cursor","found"]) (.loc 2 2 (.loc 1 1 .nil)) (.con (.fn 3 41 67 (bC (n:=5) (J3 fy (by decide)) (eI 1 rfl) (d6 5 rfl)) (.con (.loc 0 0) .nil)) (.con (.lsS .nil) .nil)))
  (.con (.whi (.cmp iN (.me 1 6 10 none (J4 (n:=6) (J3 eC (by decide))) (.loc 1 1) .nil) .int) (.con (.exp (.bm k9 (.loc 2 2) (.con (.fn 4 13 23 (J4 (n:=6) (J3 AQ (by decide))) (.con (.loc 1 1) .nil)) .nil)))
  .nil))
  (.con (.ret (.fz (.loc 2 2)))
  .nil)))
inductive cP:List UInt8->List (Int×Rc)->Prop where
 |nil:cP [] []
 |cons {q:Int}{r:Rc}{b:List UInt8}{l:List (Int×Rc)}(h:JEz/\0<=q/\q<4294967296/\J7l<256) (hs:cP b l):cP (rowB q r++b) ((q,r)::l)
def cL (x:Int×Rc):PV:=Fh x.1 x.2
inductive w8 (as:List EV) (sl:List SO) (P:EV->List SO->Prop):Prop
 |mk (b:List UInt8) (l:List (Int×Rc)) (h0:as=[.pv (.bytes b)]) (h1:sl=[]) (h2:(cP b l/\J2<=1000)) (h3:P (.pv (.lst (JE cL))) [])
theorem cP.len {b:List UInt8}{l:List (Int×Rc)}(h:cP b l):5*JV<=J2:=by
 induction h with
 |nil=>exact Jb _
 |cons h _ ih=>
  rw[JO,bS,J0w]
  unfold J7f;exact z30 0x1121589918095b8205b81 ih
theorem cP.inv {b:List UInt8}{l:List (Int×Rc)}(h:cP b l):(J2=0/\l=[])∨∃q r l' b',b=rowB q r++b'/\l=(q,r)::l'/\JEz/\(0<=q/\q<4294967296)/\J7l<256/\J2=J3F+JEJ/\cP b' l':=by
 cases h with
 |nil=>exact .inl ⟨rfl,rfl⟩
 |cons h hs=>exact .inr (dw _ _ _ _ rfl rfl h.1 ⟨h.2.1,h.2.2.1⟩ h.2.2.2 ⟨by rw[JO,bS],hs⟩)
theorem xE:ac 7 465 1 w8:=ar (kFn 47 rfl) yd aJ xJ (by
 rintro _ _ P _ ⟨b,l,rfl,rfl,⟨h,hl⟩,hP⟩
 have hll:=JFS
 refine⟨rfl,b,rfl,rfl,rfl,by decide,rfl,λk st=>∃(done rest:List (Int×Rc)) (a:Nat),J3W=k/\cP (J6S a) rest/\a<=J2/\l=done++rest/\st=⟨[some (.pv (.bytes b)),some (.loc 0),some (.loc 1)],[],[],im b a++[.list (JCH cL)]⟩,JV,(gD ([]) l 0 rfl h (J1m _) rfl rfl),?_⟩
 intro k st hJ
 refine e3_5 hJ λdone rest a hk hr ha hd er=> ?_
 have hdl:JBg<=1000:=by rw[hd,JO] at hll;exact z30 0x5113e83f80812095b83e83f8182 hl hll
 have hdm:(JCH cL).length<65536:=by rw[J6];exact J2q hdl (by decide)
 have hbb:(J6S a).length=J2 - a:=J3R
 clear hJ hll hdl
 refine J3a hr.inv (λh=> ?_) λh=> ?_
 ·refine e0_2 h λh0 hz=> ?_
  rw[hd,hz,J0e] at hP
  subst er
  exact ax rfl trivial rfl ⟨b,a,rfl,rfl,by exact z10 0x11ea604f8083e83f8081 hl,bu (J0K (by exact z40 0x1100000011001101e0ea0813103b082a32a3 hbb h.1 fS)) hP⟩
 ·refine e4_7 h λq r l' b' hb hz h1 h2 h4 hlen hs=> ?_
  have ha':a+J3F<=J2:=by exact z60 0x100000011011001021098024b5193a43a2084 ha hbb hlen fS
  have h5:5<=J3F:=by unfold J7f;exact z10 0x105895880
  have hsub:sub b a J3F=rowB q r:=by unfold sub;rw[hb,<- bS q r,J9H]
  have hdr:J6S (a+J3F)=b':=by rw[<- JFA,hb,<- bS q r,JF9]
  have hk':JAf<k:=by rw[<- hk,hz];exact J1n _
  subst er
  refine ax rfl trivial rfl ⟨b,a,rfl,rfl,by exact z10 0x11ea604f8083e83f8081 hl,cw (Jq (by exact z30 0x1111e0ea0812588021982 ha' h5)) (i_aa rfl rfl ⟨b,a,q,r,rfl,rfl,(cM (by exact z10 0x11ea604f8083e83f8081 hl) h1 h2.1 h2.2 h4 (by exact z30 0x1121098210981 ha') ?_),?_⟩)⟩
  ·exact hsub
  ·refine (v4 hdm JAf hk' (gD (done++[(q,r)]) l' (a+J3F) rfl (hdr▸hs) ha' (by rw[hd,hz,J0U];rfl) ?_))
   rw[Ji];rfl)
structure jd (l:List (Pt×List UInt8)) (rss:List (List (Int×Rc))):Prop where
 len:rss.length=JV
 at_:∀(k:Nat) (x:Pt×List UInt8) (r:List (Int×Rc)),l[k]? =some x->rss[k]? =some r->cP x.2 r/\x.2.length<=1000
def pc:Nm:=⟨[("io",.local),("head",.local),("found",.local),("pointer",.local),("octets",.local),("chain_of",.globalImplicit),("rows_in",.globalImplicit)],false,["io","head","found","pointer","octets"],[],[],false⟩
theorem yc:aG pc ["io","head"] [some 0,some 1,none,none,none] [] (ao (aB 58)):=aw rfl (by rfl)
def xI:PB pc 7 (ay (aB 58)):=
 (.con (.asg (.loc 2 2) (.lsS .nil))
  (.con (.fr (.of (.ife (.cmp lV (.loc 1 1) .non) (.fn 5 23 42 (J4 (n:=7) (J3 mj (by decide))) (.con (.loc 0 0) (.con (.loc 1 1) .nil))) (.lst .nil)) (.tup (.con (.loc 3 3) (.con (.loc 4 4) .nil)))) (.con (.exp (.bm pR (.loc 2 2) (.con (.fn 6 24 43 (J4 (n:=7) (J3 xE (by decide))) (.con (.loc 4 4) .nil)) .nil)))
  .nil))
  (.con (.ret (.fz (.loc 2 2)))
  .nil)))
inductive w7 (as:List EV) (sl:List SO) (P:EV->List SO->Prop):Prop
 |mk (blocks gone:be) (next wr:Int) (h0:sl=bI blocks gone next wr) (h1:((as=[.loc 0,.pv .none]/\P (.pv (.lst [])) (bI blocks gone next wr))∨∃(q:Pt) (l:List (Pt×List UInt8)) (rss:List (List (Int×Rc))),as=[.loc 0,.pv JG6]/\(ew blocks J5a 0 q l/\JV<=200/\jd l rss)/\P (.pv (.lst (J8K cL))) (bI blocks gone next wr)))
theorem AK {l:List (Pt×List UInt8)}{rss:List (List (Int×Rc))}(h:jd l rss) (k:Nat):(JFJ k).flatten.length<=200*k:=by
 induction k with
 |zero=>simp
 |succ k ih=>
  rw[J0j]
  cases hr:rss[k]? with
  |none=>simp only [Option.toList_none,J0e];exact z20 0x111819c82fb081c82fb081 ih
  |some r=>
   have hk:=(J04 hr).1
   refine e0_2 (h.at_ k _ r (Jy (l:=l) (i:=k) (by rw[<- JFS];exact hk)) hr) λh1 h2=> ?_
   have:=h1.len
   simp only [J7A,J0u,JO,J42]
   exact z40 0x51151829c82fb1098315b83e83f8382c82fb083 ih h2 this
theorem jF:ac 8 472 2 w7:=ar (kFn 48 rfl) yc aJ xI (by
 rintro _ _ P _ ⟨blocks,gone,next,wr,rfl,(⟨rfl,hP⟩|⟨q,l,rss,rfl,⟨h1,h2,h3⟩,hP⟩)⟩
 ·refine⟨by decide,⟨(v4 (by decide) (λk st=>st=⟨[some (.loc 0),some (.pv .none),some (.loc 3),none,none],[],[],bI blocks gone next wr++[.list []]⟩) rfl ⟨?_,?_⟩)⟩⟩
  ·intro k x st2 hx;cases hx
  ·rintro _ rfl;exact⟨rfl,hP⟩
 ·refine⟨by decide,⟨⟨rfl,blocks,gone,next,wr,q,l,rfl,rfl,⟨h1,by omega⟩,λk st=>∃x y,st=⟨[some (.loc 0),some (.pv JG6),some (.loc 3),x,y],[],[],bI blocks gone next wr++[.list ((JFJ k).flatten.map cL)]⟩,(ic none none rfl),?_,?_⟩⟩⟩
  ·intro k x _ hx hq9 K hK
   refine e2_1 hq9 λx1 y1 er0=> ?_
   clear hq9
   obtain rfl:=er0
   have hx:(bt (JE f6))[k]? =some x:=hx
   rw[au,JR] at hx
   refine e1_2 (Jw hx) λen0 hp er1=> ?_
   have hk:=(J04 hp).1
   obtain⟨p,b⟩:=en0
   refine J0y▸?_
   have hr:=Jy (l:=rss) (i:=k) (by rw[h3.len];exact hk)
   refine e0_2 (h3.at_ k _ _ hp hr) λh4 h5=> ?_
   have hfl:=AK h3 (k+1)
   refine (bv rfl rfl rfl rfl ⟨b,_,rfl,rfl,⟨h4,h5⟩,?_,hK _ (ic (some (.pv p.pv)) (some (.pv (.bytes b))) ?_)⟩)
   ·rw[J0j,hr,J0u,JO] at hfl
    simp only [J7A,J42] at hfl
    rw[J6,J6];exact z40 0x11c82fc82f100005f810981839c82fb1098239c82f8283 h2 hk hfl
   ·rw[J0j,hr,J0u,Ji]
    simp only [J7A,J42]
    rfl
  ·intro st2 hq9
   refine e2_1 hq9 λx y e3=> ?_
   clear hq9
   have e2:JFJ (bt (JE f6)).length=rss:=by rw[au,J6,<- h3.len,J0a]
   have e4:=J74 (JD (λl=>JAs _ _ _ (bI blocks gone next wr++[.list (l.flatten.map cL)])) e2)
   rw[e4]
   exact⟨rfl,hP⟩)
def ey:Nm:=⟨[("io",.local),("head",.local),("txg",.cell),("chain_of",.globalImplicit)],false,["io","head"],["txg"],[],false⟩
def gm:Nm:=⟨[(".0",.local),("pointer",.local),("octets",.local),("txg",.cell)],true,["io","head"],["txg"],[".0","pointer","octets"],false⟩
theorem jp:aG ey ["io","head","txg"] [some 0,some 1] [some 2] (ao (aB 59)):=aw rfl (by rfl)
def iY:PB ey 7 (ay (aB 59)):=
 (.con (.iff (.cmp zV (.loc 1 1) .non) (.con (.ret (.lst .nil))
  .nil) .nil)
  (.con (.ret (.com (Γc:=gm) 3 (.of (.fn 3 23 42 (J4 (n:=7) (J3 mj (by decide))) (.con (.loc 0 0) (.con (.loc 1 1) .nil))) (.tup (.con (.clo 1 1) (.con (.clo 2 2) .nil)))) (.one (.cmp iN (.att 3 11 (.clo 1 1)) (.cel 3 0))) (.clo 1 1) (aV rfl (by rfl))))
  .nil))
def lq (txg:Int) (x:List PV):Option PV:=match x with
 |[.tup [.inst C as,_]]=>(match findA 11 as with
  |some (.int b)=>if txg<b then some (.inst C as) else none
  |_=>none)
 |_=>none
def behind (txg:Int) (l:List (Pt×List UInt8)):List Pt:=(JE (·.1)).filter λq=>decide (txg<J4e)
theorem xU (txg:Int) (l:List (Pt×List UInt8)):(bt (JE f6)).filterMap (lq txg)=(behind txg l).map Jv:=by
 unfold behind bt
 induction l with
 |nil=>rfl
 |cons x r ih=>
  have e:lq txg [f6 x]=if txg<x.1.birth then some x.1.pv else none:=rfl
  by_cases h:txg<x.1.birth
  ·refine (J5J (JHG (JC h))).trans ?_
   rw[J0t,JA9 (p:=λq:Pt=>decide (txg<J4e)) (Jq h)]
   exact JD (JAz _) ih
  ·refine (J9i (JHG (JL h))).trans ?_
   rw[J0t,JAA (p:=λq:Pt=>decide (txg<J4e)) λz=>h (J05 z)]
   exact ih
inductive zh (as:List EV) (sl:List SO) (P:EV->List SO->Prop):Prop
 |mk (blocks gone:be) (next wr txg:Int) (q:Pt) (l:List (Pt×List UInt8)) (h0:as=[.loc 0,.pv JG6,.pv (.int txg)]) (h1:sl=bI blocks gone next wr) (h2:(ew blocks J5a 0 q l/\JV<=200)) (h3:P (.pv (.lst ((behind txg l).map Jv))) (bI blocks gone next wr))
theorem iX:ac 8 477 3 zh:=ar (kFn 49 rfl) jp aJ iY (by
 rintro _ _ P _ ⟨blocks,gone,next,wr,txg,q,l,rfl,rfl,⟨h1,h2⟩,hP⟩
 apply dz c3 (none,none,none) (g:=lq txg)
 case hvi=>exact λP' h=>⟨rfl,blocks,gone,next,wr,q,l,rfl,rfl,⟨h1,by omega⟩,h⟩
 case hl=>rw[au,J6];exact JJ h2 (by decide)
 case hk=>exact λz=>rfl
 case turn=>
  rintro x hx ⟨a1,a2,a3⟩ R S hR hS
  rw[au] at hx
  refine e1_2 (Ja hx) λy z er0=> ?_
  clear hx
  obtain rfl:=er0
  have e:lq txg [f6 y]=if txg<y.1.birth then some y.1.pv else none:=rfl
  refine (ax rfl rfl rfl ?_)
  by_cases h:txg<y.1.birth
  ·rw[JC h] at e
   exact cw (Jq h) (hR _ (_,_,_) e)
  ·rw[JL h] at e
   exact bu (J0K h) (hS (_,_,_) e)
 case fin=>
  rw[xU]
  exact hP)
def FM {n:Nat}:BM "pop" n:=⟨"list","list.pop",_,J3C,F.slot_list_pop,F.type_list_pop,JEI Bi⟩
theorem Ck {i:Nat}{st:St}{P:EV->St->Prop}{ps:List PV}{q:PV}(h1:nth J5 i=some (.list ps)) (h2:JBY =some q) (h3:Jt<=65536) (h:P (.pv q) { st with sl:=upd J5 i (.list J8O) }):Fp [.loc i] st P:=by
 show aj (cU pq (.loc i) st) _
 rw[df h1]
 show aj JBY _
 rw[h2];exact⟨h3,h⟩
def vP (t:List Int):List SO:=[.list (t.map .int)]
def aK (t:List Int):Int:=t.getLast?.getD 0
def m0:Nm:=⟨[("tape",.local)],false,["tape"],[],[],false⟩
theorem vB:aG m0 ["tape"] [some 0] [] (ao (aB 63)):=aw rfl (by rfl)
def uU:PB m0 0 (ay (aB 63)):=
 (.con (.ret (.ife (.cmp eH (.loc 0 0) (.lst .nil)) (.bm FM (.loc 0 0) .nil) .int))
  .nil)
inductive DZ (as:List EV) (sl:List SO) (P:EV->List SO->Prop):Prop
 |mk (t:List Int) (h0:as=[.loc 0]) (h1:sl=vP t) (h2:J6C<=63) (h3:P (.pv (.int (aK t))) (vP J0h))
theorem aW:ac 1 554 1 DZ:=ar (kFn 59 rfl) vB aJ uU (by
 rintro _ _ P _ ⟨t,rfl,rfl,h,hP⟩
 cases hl:t.getLast? with
 |none=>
  rw[List.getLast?_eq_none_iff] at hl
  subst hl
  exact (i_aa (by decide) (λz=>absurd rfl z) (λy=>(i_aa rfl rfl (hP))))
 |some x=>
  have hne:t≠[]:=λz=>by rw[z] at hl;cases hl
  refine (i_aa (by decide) (λy=>⟨rfl,⟨Ck (q:=.int x) rfl (by rw[List.getLast?_map,hl];rfl) (by rw[J6];omega) ?_⟩⟩) (λz=>absurd z ?_))
  ·rw[<- List.map_dropLast]
   unfold aK at hP
   rw[hl] at hP
   exact hP
  ·rw[J6];intro z;exact hne (List.length_eq_zero_iff.mp z))
theorem xh {st:St}{P:EV->St->Prop}{x:Str}{k:Int}{c:Nat}(h1:0<=k/\k<65536) (h2:JGk[J2i]? =some c) (h:P (.pv (.str ⟨#[c]⟩)) st):pN (.pv (.str x)) (.pv (.int k)) st P:=by
 refine⟨h1,?_⟩
 rw[h2];exact h
def rnm (p:List Nat):Rc:=⟨"rename",7,[.t p,.t (p++[120])]⟩
def crt (p:List Nat):Rc:=⟨"create",1,[.t p,.n 420]⟩
def rmd (p:List Nat):Rc:=⟨"remove_dir",5,[.t p]⟩
def cQ (i:Int):List Nat:=[47,97+J6f]
def u8 (k:Int):UInt8:=J3k
def D4 (t:List Int) (p:List Nat):Rc×List Int:=
 (wr p (Jh (aK t) 999) (J0E (Jh (aK J0J) 26).toNat (u8 (Jh (aK J0h) 256))),J03)
def cV (t:List Int):Rc×List Int:=
 if Jh (aK t) 4=0 then D4 J0J (cQ (Jh (aK J0h) 3))
 else (if Jh (aK t) 4=1 then rnm (cQ (Jh (aK J0h) 3)) else if Jh (aK t) 4=2 then crt (cQ (Jh (aK J0h) 3)) else rmd (cQ (Jh (aK J0h) 3)),J0J)
theorem bE (x:Int) {k:Int}(h:0<k):0<=Jh x k/\Jh x k<k:=⟨Int.fmod_nonneg_of_pos x h,Int.fmod_lt_of_pos x h⟩
theorem Db {k:Int}(h:0<=k/\k<3):(J11 "abc").cps[J2i]? =some (97+J2i):=by
 have e:(J11 "abc").cps= #[97,98,99]:=by decide
 rw[e]
 have:J2i=0∨J2i=1∨J2i=2:=by exact z01 0x10010001001000100100010010001010000101000010100001010010000111100000011000001100000011100001110000111000011100280a180a5080a50738012 h.2 fT
 rcases this with q|q|q<;>rw[q]<;>rfl
def jh:Nm:=⟨[("tape",.local),("way",.local),("path",.local),("_law_next",.globalImplicit),("bytes",.globalImplicit)],false,["tape","way","path"],[],[],false⟩
theorem qS:aG jh ["tape"] [some 0,none,none] [] (ao (aB 64)):=aw rfl (by rfl)
def qt:PB jh 1 (ay (aB 64)):=
 (.con (.asW (names:=["way","path"]) (.loc 2 2 (.loc 1 1 .nil)) (.con (.bin b8 (.fn 3 27 53 (J4 (n:=1) (J3 aW (by decide))) (.con (.loc 0 0) .nil)) .int) (.con (.bin aH .str (.sub .str (.bin b8 (.fn 3 27 53 (J4 (n:=1) (J3 aW (by decide))) (.con (.loc 0 0) .nil)) .int))) .nil)))
  (.con (.iff (.cmp cg (.loc 1 1) .int) (.con (.ret (.tup (.con .str (.con (.loc 2 2) (.con (.bin b8 (.fn 3 27 53 (J4 (n:=1) (J3 aW (by decide))) (.con (.loc 0 0) .nil)) .int) (.con (.bf 4 dG (.con (.bin vT (.lst (.con (.bin b8 (.fn 3 27 53 (J4 (n:=1) (J3 aW (by decide))) (.con (.loc 0 0) .nil)) .int) .nil)) (.bin b8 (.fn 3 27 53 (J4 (n:=1) (J3 aW (by decide))) (.con (.loc 0 0) .nil)) .int)) .nil)) .nil))))))
  .nil) .nil)
  (.con (.iff (.cmp cg (.loc 1 1) .int) (.con (.ret (.tup (.con .str (.con (.loc 2 2) (.con (.bin aH (.loc 2 2) .str) .nil)))))
  .nil) .nil)
  (.con (.ret (.ife (.cmp cg (.loc 1 1) .int) (.tup (.con .str (.con (.loc 2 2) (.con .int .nil)))) (.tup (.con .str (.con (.loc 2 2) .nil)))))
  .nil))))
inductive y9 (as:List EV) (sl:List SO) (P:EV->List SO->Prop):Prop
 |mk (t:List Int) (h0:as=[.loc 0]) (h1:sl=vP t) (h2:J6C<=63) (h3:P (.pv (cV t).1.pv) (vP (cV t).2))
theorem qd:ac 2 561 1 y9:=ar (kFn 60 rfl) qS aJ qt (by
 rintro _ _ P _ ⟨t,rfl,rfl,h,hP⟩
 have l1:J32<=63:=by rw[J0M];omega
 have l2:J3D<=63:=by rw[J0M];omega
 have l3:J1x<=63:=by rw[J0M];omega
 have l4:J2P<=63:=by rw[J0M];omega
 have b2:=bE (aK J0h) (k:=3) (by decide)
 refine⟨rfl,t,rfl,rfl,h,by decide,rfl,J0h,rfl,rfl,l1,by decide,⟨xh ⟨b2.1,by omega⟩ (Db b2) ?_⟩⟩
 refine (i_aa (by decide:(J11 "/").length+1<=bc) rfl ?_)
 rw[show J11 "/"++(⟨#[97+(Jh (aK J0h) 3).toNat]⟩:Str)=⟨(cQ (Jh (aK J0h) 3)).toArray⟩ from by
  have e:J11 "/"=⟨#[47]⟩:=by decide
  rw[e];rfl]
 unfold cV at hP
 by_cases h0:Jh (aK t) 4=0
 ·rw[JC h0] at hP
  have b3:=bE (aK J03) (k:=256) (by decide)
  have b4:=bE (aK J1F) (k:=26) (by decide)
  refine cw (by simp [h0]) ⟨rfl,_,rfl,rfl,l2,(i_aa (by decide) rfl ⟨_,rfl,rfl,l3,(ax (by decide) (by simp) rfl ⟨_,rfl,rfl,l4,(i_aa (by decide) ⟨b4.1,by exact z01 0x11100005f8001a2f8011 b4.2⟩ ?_)⟩)⟩)⟩
  show aj (cA (J0E _ (.int _))) _
  rw[<- J7D,bN]
  refine (i_aa ⟨?_,by simp;exact z01 0x11100005f8001a2f8011 b4.2⟩ (by simp) ?_)
  ·unfold vq
   rw[J1p]
   intro k hk
   rw[J5K hk]
   exact Jq b3
  ·rw[J7D];exact hP
 ·rw[JL h0] at hP
  refine bu (by simp [h0]) ?_
  by_cases h1:Jh (aK t) 4=1
  ·rw[JC h1] at hP
   refine cw (by simp [h1]) ⟨(by decide:2+1<=bc),?_⟩
   rw[show (⟨(cQ (Jh (aK J0h) 3)).toArray⟩:Str)++J11 "x"=⟨(cQ (Jh (aK J0h) 3)++[120]).toArray⟩ from by
    have e:J11 "x"=⟨#[120]⟩:=by decide
    rw[e];rfl]
   exact⟨by simp,hP⟩
  ·rw[JL h1] at hP
   refine bu (by simp [h1]) ?_
   by_cases h2:Jh (aK t) 4=2
   ·rw[JC h2] at hP
    exact cw (by simp [h2]) ⟨by simp,hP⟩
   ·rw[JL h2] at hP
    exact bu (by simp [h2]) ⟨by simp,hP⟩)
def mX:Nm:=⟨[("record",.local),("found",.local),("part",.local),("isinstance",.globalImplicit),("int",.globalImplicit),("str",.globalImplicit),("len",.globalImplicit)],false,["record","found","part"],[],[],false⟩
theorem vz:aG mX ["record"] [some 0,none,none] [] (ao (aB 65)):=aw rfl (by rfl)
def uS:PB mX 0 (ay (aB 65)):=
 (.con (.asg (.loc 1 1) .int)
  (.con (.fr (.of (.slc (.loc 0 0) (.som .int) .non) (.loc 2 2)) (.con (.asg (.loc 1 1) (.bin aH (.loc 1 1) (.ife (.tru (.bf 3 Gf (.con (.loc 2 2) (.con (.blt 4 G1) .nil)))) .int (.ife (.tru (.bf 3 Gf (.con (.loc 2 2) (.con (.blt 5 GY) .nil)))) (.bin aH .int (.bf 6 cv (.con (.loc 2 2) .nil))) (.bin aH .int (.bf 6 cv (.con (.loc 2 2) .nil)))))))
  .nil))
  (.con (.ret (.loc 1 1))
  .nil)))
inductive B7 (as:List EV) (sl:List SO) (P:EV->List SO->Prop):Prop
 |mk (r:Rc) (h0:as=[.pv JG4]) (h1:sl=[]) (h2:JEz) (h3:P (.pv (.int J3F)) [])
theorem ig:ac 1 568 1 B7:=ar (kFn 61 rfl) vz aJ uS (by
 rintro _ _ P _ ⟨r,rfl,rfl,h,hP⟩
 have el:(J9h JAZ::J0z J4V).length=J5M+1:=by simp
 have hf:=h.few
 refine⟨⟨rfl,rfl,by rw[el];omega,by rw[el];omega⟩,λk st=>∃x,st=⟨[some (.pv JG4),some (.pv (.int ((5+((J1b k).map J1y).sum:Nat):Int))),x],[],[],[]⟩,⟨none,rfl⟩,?_,?_⟩
 ·intro k x _ hx hq9 K hK
  refine e1_1 hq9 λx1 er0=> ?_
  clear hq9
  obtain rfl:=er0
  have hx:(bt (J0z J4V))[k]? =some x:=hx
  rw[au,JR] at hx
  refine e1_2 (Jw hx) λf hk er0=> ?_
  refine Jm▸?_
  have hok:=JE5 f (J01 hk)
  have e:((J1b (k+1)).map J1y).sum=((J1b k).map J1y).sum+J5F:=by
   rw[J0j,hk,Ji,J8r];simp
  cases f with
  |n v=>
   refine⟨rfl,(hK _ ⟨some (.pv (Fld.n v).pv),?_⟩)⟩
   rw[e];rfl
  |t l=>
   have h2:=hok.2
   refine⟨rfl,(⟨by show J3K<=_;simp;omega,hK _ ⟨some (.pv (Fld.t l).pv),?_⟩⟩)⟩
   rw[e,show ((5+(((J1b k).map J1y).sum+(Fld.t l).size):Nat):Int)=((5+((J1b k).map J1y).sum:Nat):Int)+(1+((J3K:Nat):Int)) by simp [J1y];exact z20 0x111e1890e58991e1890e958920];rfl
  |o b=>
   have h2:J2<=1000:=hok
   refine⟨rfl,(⟨by show J2<=_;omega,hK _ ⟨some (.pv (Fld.o b).pv),?_⟩⟩)⟩
   rw[e,show ((5+(((J1b k).map J1y).sum+(Fld.o b).size):Nat):Int)=((5+((J1b k).map J1y).sum:Nat):Int)+(2+((J2:Nat):Int)) by simp only [J1y];exact z20 0x111e2890589e9128909589e20]
 ·intro st2 hq9
  refine e1_1 hq9 λx e3=> ?_
  clear hq9
  have e2:J1b (bt (J0z J4V)).length=JC7:=by rw[au,J6,J0a]
  have e4:=J74 (JD (λl=>JAs [_,some (.pv (.int ((5+(J7E J1y l).sum:Nat):Int))),_] _ _ _) e2)
  rw[e4]
  exact⟨rfl,hP⟩)
def kt:Nm:=⟨[("record",.local),("room",.local),("over",.local),("word",.cell),("path",.cell),("at",.cell),("octets",.cell),("many",.cell),("_law_size",.globalImplicit),("len",.globalImplicit),("range",.globalImplicit)],false,["record","room","over"],["many","octets","at","path","word"],[],false⟩
def mZ:Nm:=⟨[(".0",.local),("k",.local),("at",.cell),("many",.cell),("octets",.cell),("path",.cell),("word",.cell)],true,["record","room","over"],["many","octets","at","path","word"],[".0","k"],false⟩
theorem tm:aG kt ["record","room"] [some 0,some 1,none] [none,none,none,none,none] (ao (aB 66)):=aw rfl (by rfl)
def sH:PB kt 1 (ay (aB 66)):=
 (.con (.asg (.loc 2 2) (.bin cz (.fn 8 29 55 (J4 (n:=1) (J3 ig (by decide))) (.con (.loc 0 0) .nil)) (.loc 1 1)))
  (.con (.iff (.cmp lT (.loc 2 2) .int) (.con (.ret (.lst (.con (.loc 0 0) .nil)))
  .nil) .nil)
  (.con (.asT (.con (.cel 3 4) (.con (.cel 4 3) (.con (.cel 5 2) (.con (.cel 6 1) .nil)))) (.loc 0 0))
  (.con (.asg (.cel 7 0) (.bin cz (.bf 9 cv (.con (.cel 6 1) .nil)) (.loc 2 2)))
  (.con (.ret (.com (Γc:=mZ) 2 (.of (.bf 10 iv (.con .int (.con (.bf 9 cv (.con (.cel 6 1) .nil)) (.con (.cel 7 0) .nil)))) (.clo 1 1)) .nil (.tup (.con (.cel 6 4) (.con (.cel 5 3) (.con (.bin aH (.cel 2 2) (.clo 1 1)) (.con (.slc (.cel 4 1) (.som (.clo 1 1)) (.som (.bin aH (.clo 1 1) (.cel 3 0)))) .nil))))) (aV rfl (by rfl))))
  .nil)))))
inductive ze (as:List EV) (sl:List SO) (P:EV->List SO->Prop):Prop
 |mk (r:Rc) (room:Int) (h0:as=[.pv JG4,.pv (.int room)]) (h1:sl=[]) (h2:(JEz/\i6 room r)) (h3:P (.pv (.lst ((parts room r).map J6L))) [])
theorem ss:ac 2 573 2 ze:=ar (kFn 62 rfl) tm aJ sH (by
 rintro _ _ P _ ⟨r,room,rfl,rfl,⟨h1,h2⟩,hP⟩
 refine⟨rfl,r,rfl,rfl,h1,?_⟩
 by_cases h:(J3F:Int)<=room
 ·rw[parts_le h] at hP
  exact cw (Jq (by exact z11 0x110810ea010e01 h)) ⟨by simp,hP⟩
 ·refine bu (J0K (by exact z11 0x110810ea0310e031 h)) ?_
  clear h1
  rcases h2 with h2|⟨p,k,b,rfl,h3,h4,h5⟩
  ·exact absurd h2 h
  ·rw[iK h] at hP
   refine (i_aa rfl (by show J2<=_;omega) ?_)
   have ec:(J2:Int) - ((wr p k b).size - room)=room - ((wr p k b).size - J2):=by exact z21 0x110e1ea2a21ea0ea20
   rw[<- ec] at hP h3
   have hs:dY 0 J2 ((J2:Int) - ((wr p k b).size - room))=true:=Jq (by exact z21 0x1101101011001011100010003b9aca008f821ea0ea021ea0ea08143b9aca008f80e040e3b9aca008f8d043b9aca008f80804083b9aca008f8d043e83f80821ea0ea18021e033 h h3 h4)
   apply dz c2 (none,none) (g:=λx=>some (match x with |[.int i]=>.tup [.str "write",.str ⟨p.toArray⟩,.int (k+i),.bytes (cut b (some i) (some (i+((J2:Int) - ((wr p k b).size - room)))))]|_=>.none))
   case hvi=>exact λP' h=>(i_aa (by show J2<=_;omega) (by exact z21 0x111010013b9aca008f821ea0ea121ea0ea08143e83f8203e83f80821ea0ea1803 h3 h4 h5) (dW hs h))
   case hl=>simp only [bt,cI,J6,J0I];exact JJ (iI h3) (JJ h4 (by decide))
   case hk=>exact λy=>jA hs _
   case turn=>
    rintro x hx ⟨a1,a2⟩ R S hR _
    unfold cI at hx
    rw[au] at hx
    refine e1_2 (Ja hx) λi y er0=> ?_
    clear hx
    obtain rfl:=er0
    exact (i_aa (by show J2<=_;omega) (by simp) (hR _ (_,_) rfl))
   case fin=>
    rw[cE]
    unfold cI
    rw[au,Js]
    unfold pcs at hP
    rw[Js] at hP
    exact hP)
def mY:Nm:=⟨[("blocks",.local),("found",.local),("block",.local)],false,["blocks","found","block"],[],[],false⟩
theorem vA:aG mY ["blocks"] [some 0,none,none] [] (ao (aB 68)):=aw rfl (by rfl)
def uT:PB mY 0 (ay (aB 68)):=
 (.con (.asg (.loc 1 1) (.lsS .nil))
  (.con (.fr (.of (.loc 0 0) (.loc 2 2)) (.con (.exp (.bm pR (.loc 1 1) (.con (.loc 2 2) .nil)))
  .nil))
  (.con (.ret (.fz (.loc 1 1)))
  .nil)))
inductive B8 (as:List EV) (sl:List SO) (P:EV->List SO->Prop):Prop
 |mk (bss:List (List PV)) (h0:(JCJ<=60000)) (h1:((as=[.loc 0]/\sl=[.list (Ju .lst)]/\P (.pv (.lst J8e)) [.list (Ju .lst)])∨(as=[.pv (.lst (Ju .lst))]/\sl=[]/\P (.pv (.lst J8e)) [])))
theorem iU {α:Type}(l:List (List α)) (k:Nat):(JDv k).flatten.length<=JDH:=by
 conv=>rhs;rw[<- JAv k l]
 rw[J0u,JO]
 exact J2f _ _
theorem mf:ac 1 587 1 B8:=ar (kFn 64 rfl) vA aJ uT (by
 rintro _ _ P _ ⟨bss,hl,(⟨rfl,rfl,hP⟩|⟨rfl,rfl,hP⟩)⟩
 ·refine⟨by decide,⟨λk st=>∃x,st=⟨[some (.loc 0),some (.loc 1),x],[],[],[.list (Ju .lst),.list (J1h k).flatten]⟩,⟨none,rfl⟩,?_,?_⟩⟩
  ·intro k x _ hx hq9 K hK
   refine e1_1 hq9 λx1 er0=> ?_
   clear hq9
   obtain rfl:=er0
   have hx:(bt (Ju .lst))[k]? =some x:=hx
   rw[au,JR] at hx
   refine e1_2 (Jw hx) λps hk er0=> ?_
   obtain rfl:=er0
   have e:(J1h (k+1)).flatten=(J1h k).flatten++ps:=by rw[J0j,hk,J0u];simp
   have h1:=iU bss (k+1)
   rw[e,JO] at h1
   refine (ax rfl rfl (by exact z30 0x111100005f8109821098ea604f8282 hl h1) (hK _ ⟨some (.pv (.lst ps)),?_⟩))
   rw[e]
  ·intro st2 hq9
   refine e1_1 hq9 λx e3=> ?_
   clear hq9
   have e2:J1h (bt (Ju .lst)).length=bss:=by rw[au,J6,J0a]
   have e4:=J74 (JD (λl=>JAs _ _ _ [_,.list (JGV l)]) e2)
   refine e4.symm▸?_
   exact⟨rfl,hP⟩
 ·refine⟨by decide,⟨λk st=>∃x,st=⟨[some (.pv (.lst (Ju .lst))),some (.loc 0),x],[],[],[.list (J1h k).flatten]⟩,⟨none,rfl⟩,?_,?_⟩⟩
  ·intro k x _ hx hq9 K hK
   refine e1_1 hq9 λx1 er1=> ?_
   clear hq9
   obtain rfl:=er1
   have hx:(bt (Ju .lst))[k]? =some x:=hx
   rw[au,JR] at hx
   refine e1_2 (Jw hx) λps hk er1=> ?_
   obtain rfl:=er1
   have e:(J1h (k+1)).flatten=(J1h k).flatten++ps:=by rw[J0j,hk,J0u];simp
   have h1:=iU bss (k+1)
   rw[e,JO] at h1
   refine (ax rfl rfl (by exact z30 0x111100005f8109821098ea604f8282 hl h1) (hK _ ⟨some (.pv (.lst ps)),?_⟩))
   rw[e]
  ·intro st2 hq9
   refine e1_1 hq9 λx e3=> ?_
   clear hq9
   have e2:J1h (bt (Ju .lst)).length=bss:=by rw[au,J6,J0a]
   have e4:=J74 (JD (λl=>JAs _ _ _ [.list (JGV l)]) e2)
   refine e4.symm▸?_
   exact⟨rfl,hP⟩)
def pi (size:Nat) (chain seq:Int) (gone:be) (s:LS) (bss:List (List PV)) (births:List Int):List SO:=
 [.inst 433 [(14,.loc 1),(15,.pv (.int size)),(16,.pv (.int chain)),(17,.pv (.int J2T)),(18,.pv (.int seq)),(19,.loc 3),(20,.pv J7k)],
 .inst 543 [(21,.pv (.int 16)),(22,.loc 4),(23,.loc 5),(24,.pv (.int JP)),(19,.pv (.int J95))],
 .sdict [(18,.pv (.int seq)),(22,.loc 6),(25,.loc 7)],.list (J2S Jv),.tdict JU,.tdict gone,.list (Ju .lst),.list (J35 .int)]
def LS.head (s:LS):Pt:=s.ws.headD s.a
theorem lb (s:LS):(J2S Jv).headD J7k=s.head.pv:=by
 unfold LS.head
 cases JCc<;>rfl
structure wo (s:LS) (bss:List (List PV)) (l:List (Pt×List UInt8)) (rss:List (List (Int×Rc))) (ts:List (Int×Int)):Prop where
 wl:J6c<=1000
 rd:ew JU JGq 0 J6z l
 ll:JV<=200
 rows:jd l rss
 eq:J8K cL=J8e
 dat:datNs 8 J8e=true
 bl:J0i<=1000
 fl:JCJ<=60000
 keys:JG3 (·.1)=J6w (λp:Int×Int=>[0,p.1,p.2])
 ris:jQ ts
 tl:J1w=J0i+1
 t64:J1w<64
def gp:Nm:=⟨[("log",.local),("io",.local),("state",.local),("rows_of",.globalImplicit),("_law_rows",.globalImplicit),("len",.globalImplicit)],false,["log","io","state"],[],[],false⟩
theorem ni:aG gp ["log","io","state"] [some 0,some 1,some 2] [] (ao (aB 69)):=aw rfl (by rfl)
def mu:PB gp 8 (ay (aB 69)):=
 (.con (.iff (.or (.cmp eH (.att 4 18 (.loc 0 0)) (.key 18 (.loc 2 2))) (.or (.cmp eH (.fn 3 25 44 (J4 (n:=8) (J3 jF (by decide))) (.con (.loc 1 1) (.con (.me 4 14 35 none (J4 (n:=8) (J3 dl (by decide))) (.loc 0 0) .nil) .nil))) (.fn 4 32 58 (J4 (n:=8) (J3 mf (by decide))) (.con (.key 22 (.loc 2 2)) .nil))) .or0)) (.con (.ret .boo)
  .nil) .nil)
  (.con (.ret (.cmp cg (.bf 5 cv (.con (.me 5 24 51 none (J4 (n:=8) (J3 kc (by decide))) (.loc 1 1) .nil) .nil)) (.bin aH (.bf 5 cv (.con (.key 22 (.loc 2 2)) .nil)) .int)))
  .nil))
inductive B6 (as:List EV) (sl:List SO) (P:EV->List SO->Prop):Prop
 |mk (size:Nat) (chain seq:Int) (gone:be) (s:LS) (bss:List (List PV)) (births:List Int) (l:List (Pt×List UInt8)) (rss:List (List (Int×Rc))) (ts:List (Int×Int)) (h0:as=[.loc 0,.loc 1,.loc 2]) (h1:sl=pi size chain seq gone s bss births) (h2:wo s bss l rss ts) (h3:P (.pv (.bool true)) (pi size chain seq gone s bss births))
theorem mh:ac 9 594 3 B6:=ar (kFn 65 rfl) ni aJ mu (by
 rintro _ _ P _ ⟨size,chain,seq,gone,s,bss,births,l,rss,ts,rfl,rfl,H,hP⟩
 refine (i_aa rfl rfl (bu (by simp) ?_))
 refine (ax rfl trivial rfl ⟨size,chain,J2T,seq,J7k,J2S Jv,JU,gone,JP,J95,rfl,rfl,⟨by rw[J6];exact H.wl,rfl⟩,?_⟩)
 rw[lb]
 refine⟨rfl,JU,gone,JP,J95,rfl,.inr (cC J6z l rss rfl (i_aa H.rd H.ll H.rows) ?_)⟩
 rw[H.eq]
 refine⟨rfl,bss,H.fl,.inl (ax rfl rfl (λz=>absurd rfl z) (λy=>(i_aa rfl H.dat ((?_)))))⟩
 have htl:=H.tl
 have hbl:=JFD
 refine (ax rfl trivial rfl ⟨JU,gone,JP,J95,ts,rfl,rfl,(ax H.keys H.ris (by exact z20 0x110018818190a1 htl) H.t64),(i_aa (by rw[J6];exact z20 0x1101100005f8083e83f81818190a2 htl hbl) (by rw[J6];omega) ?_)⟩)
 rw[J6,J6,htl]
 have e:((((J0i+1:Nat):Int)==(J0i:Int)+1)==true)=true:=by simp
 rw[<- e] at hP
 exact hP)
def eW:Nm:=⟨[("log",.local),("io",.local),("state",.local),("txg",.cell),("births",.local),("found",.local),("live",.cell),("len",.globalImplicit),("pointers_behind",.globalImplicit),("all",.globalImplicit)],false,["log","io","state","births","found"],["live","txg"],[],false⟩
def gS:Nm:=⟨[(".0",.local),("pointer",.local)],true,["log","io","state","births","found"],["live","txg"],[".0","pointer"],false⟩
def gQ:Nm:=⟨[(".0",.local),("birth",.local),("txg",.cell)],true,["log","io","state","births","found"],["live","txg"],[".0","birth"],false⟩
def gO:Nm:=⟨[(".0",.local),("pointer",.local),("live",.cell)],true,["log","io","state","births","found"],["live","txg"],[".0","pointer"],false⟩
theorem jW:aG eW ["log","io","state","txg"] [some 0,some 1,some 2,none,none] [none,some 3] (ao (aB 70)):=aw rfl (by rfl)
def jK:PB eW 8 (ay (aB 70)):=
 (.con (.asg (.loc 4 3) (.slc (.key 25 (.loc 2 2)) .non (.som (.bf 7 cv (.con (.key 22 (.loc 2 2)) .nil)))))
  (.con (.asg (.loc 5 4) (.fn 8 26 45 (J4 (n:=8) (J3 iX (by decide))) (.con (.loc 1 1) (.con (.me 4 14 35 none (J4 (n:=8) (J3 dl (by decide))) (.loc 0 0) .nil) (.con (.cel 3 1) .nil)))))
  (.con (.iff (.cmp eH (.com (Γc:=gS) 2 (.of (.loc 5 4) (.clo 1 1)) .nil (.att 3 11 (.clo 1 1)) (aV rfl (by rfl))) (.com (Γc:=gQ) 2 (.of (.loc 4 3) (.clo 1 1)) (.one (.cmp iN (.clo 1 1) (.cel 2 1))) (.clo 1 1) (aV rfl (by rfl)))) (.con (.ret .boo)
  .nil) .nil)
  (.con (.asg (.cel 6 0) (.me 5 24 51 none (J4 (n:=8) (J3 kc (by decide))) (.loc 1 1) .nil))
  (.con (.ret (.bf 9 EP (.con (.com (Γc:=gO) 2 (.of (.loc 5 4) (.clo 1 1)) .nil (.cmp Ek (.sub (.att 3 6 (.clo 1 1)) .int) (.cel 2 0)) (aV rfl (by rfl))) .nil)))
  .nil)))))
structure DF (s:LS) (txg:Int) (n:Nat) (births:List Int) (l:List (Pt×List UInt8)) (ts:List (Int×Int)):Prop where
 wl:J6c<=1000
 rd:ew JU JGq 0 J6z l
 ll:JV<=200
 bl:n<=J3n/\J3n<=1000
 eq:(behind txg l).map (·.birth)=(J6j n).filter λb=>decide (txg<b)
 keys:JG3 (·.1)=J6w (λp:Int×Int=>[0,p.1,p.2])
 ris:jQ ts
 t1:1<=J1w
 t64:J1w<64
 mem:∀q∈behind txg l,q.v=0/\(q.p,q.c)∈ts
def pvB:PV->Option PV
 | .inst _ as=>findA 11 as
 |_=>none
def pvG (txg:Int):PV->Option PV
 | .int b=>if txg<b then some (.int b) else none
 |_=>none
theorem xR (l:List Pt):J8U ((λx:List PV=>J4D pvB) ∘ λq=>[Jv q])=(JE (·.birth)).map J3G:=by
 induction l with
 |nil=>rfl
 |cons q r ih=>exact (J5J (f:=(λx:List PV=>J4D pvB) ∘ λq=>[Jv q]) (b:=.int J4e) rfl).trans (JD (JAz _) ih)
theorem xS (txg:Int) (l:List Int):J8U ((λx:List PV=>J4D (pvG txg)) ∘ λb=>[J3G b])=(l.filter λb=>decide (txg<b)).map J3G:=by
 induction l with
 |nil=>rfl
 |cons b r ih=>
  by_cases h:txg<b
  ·rw[JA9 (p:=λb:Int=>decide (txg<b)) (Jq h)]
   exact (J5J (f:=(λx:List PV=>J4D (pvG txg)) ∘ λb=>[J3G b]) (JC h)).trans (JD (JAz _) ih)
  ·rw[JAA (p:=λb:Int=>decide (txg<b)) λz=>h (J05 z)]
   exact (J9i (f:=(λx:List PV=>J4D (pvG txg)) ∘ λb=>[J3G b]) (JL h)).trans ih
theorem Ba (n:Nat) (l:List Int):datNs n (JE .int)=true:=by
 induction l with
 |nil=>rfl
 |cons a r ih=>exact ih
inductive Fg (as:List EV) (sl:List SO) (P:EV->List SO->Prop):Prop
 |mk (size:Nat) (chain seq:Int) (gone:be) (s:LS) (bss:List (List PV)) (births:List Int) (txg:Int) (l:List (Pt×List UInt8)) (ts:List (Int×Int)) (h0:as=[.loc 0,.loc 1,.loc 2,.pv (.int txg)]) (h1:sl=pi size chain seq gone s bss births) (h2:DF s txg J0i births l ts) (h3:P (.pv (.bool true)) (pi size chain seq gone s bss births))
theorem jH:ac 9 599 4 Fg:=ar (kFn 66 rfl) jW aJ jK (by
 rintro _ _ P _ ⟨size,chain,seq,gone,s,bss,births,txg,l,ts,rfl,rfl,H,hP⟩
 have hb:=JFD
 refine (i_aa (by rw[J6];exact z20 0x111100005f8083e83f8181082 hb.1 hb.2) (by rw[J6];omega) ?_)
 rw[J6,mx (by rw[J6];omega),<- JA8]
 refine (ax rfl trivial rfl ⟨size,chain,J2T,seq,J7k,J2S Jv,JU,gone,JP,J95,rfl,rfl,⟨by rw[J6];exact H.wl,rfl⟩,?_⟩)
 rw[lb]
 refine⟨rfl,JU,gone,JP,J95,txg,J6z,l,rfl,rfl,⟨H.rd,H.ll⟩,?_⟩
 have hbl:(behind txg l).length<=200:=by
  exact JJ (List.length_filter_le _ _) (by rw[J6];exact H.ll)
 apply dz c2 (none,none) (g:=λx=>J4D pvB)
 case hvi=>exact λP' h=>h
 case hl=>rw[au,J6];exact JJ hbl (by decide)
 case hk=>exact λy=>rfl
 case turn=>
  rintro x hx ⟨a1,a2⟩ R S hR hS
  rw[au] at hx
  refine e1_2 (Ja hx) λq y er0=> ?_
  obtain rfl:=er0
  exact (i_aa rfl rfl (hR _ (_,_) rfl))
 case fin=>
  apply dz c2 (none,none) (g:=λx=>J4D (pvG txg))
  case hvi=>exact λP' h=>h
  case hl=>rw[au,J6,J0k];exact JJ (J80 _ _) (JJ hb.2 (by decide))
  case hk=>exact λy=>rfl
  case turn=>
   rintro x hx ⟨a1,a2⟩ R S hR hS
   rw[au] at hx
   refine e1_2 (Ja hx) λb y er1=> ?_
   obtain rfl:=er1
   by_cases h:txg<b
   ·exact cw (Jq h) (hR _ (_,_) (JC h))
   ·exact bu (J0K h) (hS (_,_) (JL h))
  case fin=>
   generalize hA:J9K _ (bt ((behind txg l).map Jv))=A
   generalize hB:J9K _ (bt ((J6j J0i).map J3G))=B
   obtain rfl:((J6j J0i).filter λb=>decide (txg<b)).map J3G=A:=by
    refine (H.eq)▸?_
    refine (hA)▸?_
    rw[au,JCO]
    exact (xR _).symm
   obtain rfl:((J6j J0i).filter λb=>decide (txg<b)).map J3G=B:=by
    rw[<- hB,au,JCO]
    exact (xS _ _).symm
   refine⟨λz=>absurd rfl z,λy=>(i_aa rfl (Ba _ _) (?_))⟩
   refine (ax rfl trivial rfl ⟨JU,gone,JP,J95,ts,rfl,rfl,(ax H.keys H.ris H.t1 H.t64),?_⟩)
   apply dz c2 (none,none) (g:=λx=>some (.bool true))
   case hvi=>exact λP' h=>h
   case hl=>rw[au,J6];exact JJ hbl (by decide)
   case hk=>exact λy=>rfl
   case turn=>
    rintro x hx ⟨a1,a2⟩ R S hR hS
    rw[au] at hx
    refine e1_2 (Ja hx) λen2 hq er3=> ?_
    refine J4X▸?_
    obtain⟨v,p,c,size,birth,fill⟩:=en2
    refine e0_2 (H.mem _ hq) λer4 hm=> ?_
    clear er3 hA hB hS hq hx
    obtain rfl:=er4
    refine (i_aa rfl rfl ⟨⟨by decide,by decide⟩,⟨(eJ ts (p,c) ⟨rfl,rfl⟩ ?_)⟩⟩)
    rw[Jq hm]
    exact hR _ (_,_) rfl
   case fin=>
    rw[cE,au,Js]
    show aj (gH ((behind txg l).map λy=>.bool true)) _
    rw[ft]
    have e:=mJ (behind txg l)
    rw[<- e] at hP
    exact hP)
def FH:List EV->VC EV:=p2 λa e st P=>aj (oX a) λi=>aj (slB yw i st) λes=>J1H<65536/\P (.pv .none) { st with sl:=upd J5 i (.elist (es++[e])) }
theorem yl {α:Type}{l:List α}(h:2=JV):∃a b,l=[a,b]:=by
 cases l with
 |nil=>cases h
 |cons a l=>cases l with
  |nil=>cases h
  |cons b l=>cases l with
   |nil=>exact (ic a b rfl)
   |cons c l=>exact absurd h (by simp)
theorem xO {n:Nat}:bh n (.builtin "list.append") FH:=by
 intro w A Γ X B AO st T vs args ws s h t Q E P hl H hv hQ
 refine e2_2 (rT hv) λea e er0 hv=> ?_
 obtain rfl:=er0
 refine e2_1 (yl hl) λva vb er0=> ?_
 clear hl
 obtain rfl:=er0
 refine e1_2 (ah hv) λi qi hv=> ?_
 refine e1_2 (ah hv) λes qe hv5=> ?_
 refine e1_2 (vR qe) λso q qs=> ?_
 obtain rfl:=pr qs
 clear qs
 obtain rfl:=iR qi
 clear qi qe
 rw[aZ] at q
 refine J9 H λN own ρ m R=> ?_
 refine e0_3 J14 λz1 z2 zs=> ?_
 refine e1_2 z1.inv λa er1 hρ=> ?_
 refine J0y▸?_
 cases J96 _ _ _ hρ q with
 |elist hm hE=>
  rename_i items k
  have hlen:J1H=J12:=hE.len
  refine av (JEL (s:=At s h t) (JH _ hm).1 (λh' hs ho=> ?_) (fit_le (by unfold bc;exact z20 0x1101100005f80801a100005f8192 hv5.1 hlen)))
  have R':=JA3 (so':=.elist (es++[e])) hρ q (by intro z;cases z) hm hs ho λmz=>.elist bD (by rw[J7j];exact (hE.mono mz λ_ _ z=>z).append (.cons (J44 mz λ_ _ z=>z) .nil))
  refine e0_3 J4l λ_ _ y=> ?_
  exact hQ _ _ _ h' t ⟨_,_,_,_,J1e (.cons (.pv .none) y)⟩ hv5.2
def FP {n:Nat}:BM "append" n:=⟨"list","list.append",_,J3C,J7K,J7J,xO⟩
def Ft:VC EV:=λst P=>P (.loc JK) { st with sl:=J5++[.elist []] }
section
variable {Γ:Nm}{n:Nat}
theorem aA.asE {w:World}{Γ:Nm}{X:Fx}{st:St}{T:List EV}{vs:List Value}{h:Heap}{N:Led}{own:Own}{ρ:List Addr}{m:Str->Option Value}(R:aA w Γ X { st with sl:=J5++[.list []] } T vs h N own ρ m):
  aA w Γ X { st with sl:=J5++[.elist []] } T vs h N own ρ m:=by
 have g:∀(i:Nat) (so:SO),(J5++[SO.elist []])[i]? =some so->(i<JK/\(J5++[JBl []])[i]? =some so)∨(so=.elist []/\(J5++[JBl []])[i]? =some (.list [])):=by
  intro i so h1
  by_cases hi:i<JK
  ·rw[J0W hi] at h1 ⊢
   exact .inl ⟨hi,h1⟩
  ·rw[J0D (J82 hi)] at h1 ⊢
   have:i - JK=0:=by
    have:=get_lt' h1
    simpa using this
   rw[this] at h1 ⊢
   exact .inr ⟨(JT h1).symm,rfl⟩
 refine { R with rho:=λi a so h1 h2=> ?_,len:=by simpa using JBn,sl:=λi a so h1 h2=> ?_ }
 ·rcases g i so h2 with⟨_,q⟩|⟨rfl,q⟩
  ·exact R.rho i a so h1 q
  ·exact .inr ((R.rho i a _ h1 q).resolve_left (by intro z;cases z))
 ·rcases g i so h2 with⟨_,q⟩|⟨rfl,q⟩
  ·exact J96 i a so h1 q
  ·have hL:=(J96 i a _ h1 q).inv
   obtain⟨items,k,q1,q2⟩:=hL
   have:J0P=[]:=by cases hq:J0P with
    |nil=>rfl
    |cons _ _=>rw[hq] at q2;cases q2
   exact .elist q1 (by rw[this];exact .nil)
theorem wL {pos:Pos}:Sem Γ n (.List [] pos) (λst P=>Ft st P):=by
 intro w A env X C st T vs s h t Q E P H hv hQ
 refine oR (va:=λst P=>P [] st) rl C H (P:=λev st'=>ev=.loc JK/\st'={ st with sl:=J5++[.list []] }) ⟨by decide,rfl,rfl⟩ λev v st' h' t' H' e=> ?_
 obtain⟨rfl,rfl⟩:=e
 refine J9 H' λN own ρ m R=> ?_
 exact hQ _ _ _ _ _ ⟨_,_,_,_,R.asE⟩ hv
def PE.lsE {p:Pos}:PE Γ n (.List [] p):=⟨_,true,λy=>J5e wL,λy y=>rfl⟩
def Fu (a:EV):VC EV:=λst P=>aj (oX a) λi=>aj (slB yw i st) λes=>∃e,JHE =some e/\J1H<=65536/\P e st
theorem EVs.last {fz:FzP}{ρ:List Addr}{es:List EV}{vs:List Value}(h:EVs fz ρ es vs) {e:EV}(he:JHE =some e):∃v,vs[J5l - 1]? =some v/\EVR fz ρ e v:=by
 rw[J9I] at he
 rw[<- JFS]
 exact JHZ h he
set_option tactic.hygienic true in
theorem yH {o:Expr}{p q pos:Pos}{vo:VC EV}{k:Nat}(ho:Sem Γ n o vo):Sem Γ n (.Subscript o (.UnaryOp .USub (.Constant (.int 1) k p) q) pos) (λst P=>vo st λa st1=>Fu a st1 P):=by
 intro w A env X C st T vs s h t Q E P H hv hQ
 refine ee (ho C H hv λeo v st1 h1 t1 H1 hv1=> ?_)
 rw[JDK]
 refine aa (py C H1 (P:=λev st'=>ev=.pv (.int 1)/\st'=st1) ⟨rfl,rfl⟩ λev i st' h2 t2 H2 e=>aa (am (ai ?_)))
 refine e0_2 e λer0 er1=> ?_
 clear e
 clear H1
 obtain rfl:=er0
 obtain rfl:=er1
 refine e2_1 JHS λfz ρ' z=> ?_
 refine e1_1 J58 λtk er2=> ?_
 refine J3P▸?_
 refine av (neg_int (s:=At s h2 t2) ?_)
 have H3:=H2.pop
 refine e1_2 (ah hv1) λi qi hv1=> ?_
 refine e1_2 (ah hv1) λes qe hv1=> ?_
 refine e1_3 hv1 λe he hl hP=> ?_
 refine e1_2 (vR qe) λso q qs=> ?_
 clear H2 hv1
 obtain rfl:=pr qs
 clear qs
 obtain rfl:=iR qi
 rw[aZ] at q
 refine J9 H3 λN own ρ m R=> ?_
 refine e0_2 Jg λz zs=> ?_
 refine e1_2 JDW λ_ er3 hρ=> ?_
 refine J4X▸?_
 cases J96 _ _ _ hρ q with
 |elist hm hE=>
  rename_i items nn
  refine e1_2 (hE.last he) λv y1 y2=> ?_
  have e1:=hE.len
  simp only [J0L] at e1 y1
  have hlt:=get_lt' y1
  simp only [J0L] at hlt
  have hg:({ At s h2 t2 with toks:=t2+1 }:J1).heap.IsList _ items:=(aO _ ((JH _ hm).1) rfl _ rfl)
  exact cy (s:=At s h2 (t2+1)) hg.typeIs J2B (av (wpAny_getItem_list_neg hg (by omega) (by exact z20 0x1118d0ed00191 hlt) (by omega) (by
   rw[show ((-1:Int)+J12).toNat=J12 - 1 by exact z21 0x1010001001001010000011001010111010010010001010010001110001011010101002a1810b271e18d9223 rfl fT fS]
   simpa using y1) (hQ _ _ st' h2 (t2+1) ⟨_,_,_,_,Jj (.cons y2 zs)⟩ hP))) rfl
def PE.last {o:Expr}{p q pos:Pos}{k:Nat}(a:PE Γ n o):PE Γ n (.Subscript o (.UnaryOp .USub (.Constant (.int 1) k p) q) pos):=⟨_,Jc,λh=>J5e (yH (Jd h)),λy y=>rfl⟩
inductive jo:List EV->St->List PV->St->Prop where
 |nil {st:St}:jo [] st [] st
 |cons {e:EV}{es:List EV}{st st1 st2:St}{p:PV}{ps:List PV}(h:fzV e st=some (p,st1)) (hs:jo es st1 ps st2):jo (e::es) st (p::ps) st2
theorem jo.len {st st':St}{es:List EV}{ps:List PV}(F:jo es st ps st'):Jt=J1H:=by
 induction F with
 |nil=>rfl
 |cons _ _ ih=>simp [ih]
set_option tactic.hygienic true in
theorem jo.rel {w:World}{Γ:Nm}{X:Fx}{st st':St}{h:Heap}{es:List EV}{ps:List PV}(F:jo es st ps st'):∀{T:List EV}{vs us:List Value},us.length=J1H->Rel w Γ X st (es++T) (us++vs) h->Rel w Γ X st' (JC9 .pv++T) (us++vs) h:=by
 induction F with
 |nil=>intro T vs us hl H;exact H
 |cons hf hs ih=>
  intro T vs us hl H
  cases us with
  |nil=>cases hl
  |cons u us=>
   have H1:=H.freezeSlot hf
   have hl':us.length=_:=J3b hl
   rename_i e es st st1 st2 p ps
   have H2:Rel w Γ X st1 (es++(.pv p::T)) (us++(u::vs)) h:=by
    refine J9 H1 λN own ρ m R=> ?_
    obtain⟨z,zs⟩:=Jg
    obtain⟨q1,q2⟩:=J1N hl'.symm zs
    exact⟨_,_,_,_,Jj (J5q (.cons z q2))⟩
   have H3:=ih hl' H2
   refine J9 H3 λN own ρ m R=> ?_
   have lp:=hs.len
   refine e0_2 (J1N (by rw[J6];exact z30 0x101101100110a20a21a2 hl' lp) J62) λq1 q2=> ?_
   obtain⟨z,zs⟩:=q2.inv
   exact⟨_,_,_,_,Jj (.cons z (J5q zs))⟩
def FD:List EV->VC EV:=p2 λa b st P=>aj (oX a) λi=>aj (oX b) λj=>aj (slB pq i st) λps=>aj (slB yw j st) λes=>
 ∃qs st',jo es st qs st'/\nth st'.sl i=some (.list ps)/\Jt+JAa<=65536/\P (.pv .none) { st' with sl:=upd st'.sl i (.list (ps++qs)) }
theorem EVs.pvs {fz:FzP}{ρ:List Addr}{ps:List PV}:∀{us:List Value},EVs fz ρ (JC9 .pv) us->PRs fz ps us:=by
 induction ps with
 |nil=>
  intro us h
  cases h
  exact .nil
 |cons p ps ih=>exact λh=>e2_3 J7n λv vs e h1 h2=>J5x▸.cons h1.pvI (ih h2)
set_option tactic.hygienic true in
theorem xN {n:Nat}:bh n (.builtin "list.extend") FD:=by
 intro w A Γ X B AO st T vs args ws s h t Q E P hl H hv hQ
 refine e2_2 (rT hv) λea eb er0 hv=> ?_
 obtain rfl:=er0
 refine e2_1 (yl hl) λva vb er0=> ?_
 clear hl
 obtain rfl:=er0
 refine e1_2 (ah hv) λi qi hv=> ?_
 refine e1_2 (ah hv) λj qj' hv=> ?_
 refine e1_2 (ah hv) λps o hv=> ?_
 refine e1_2 (ah hv) λes qe hv=> ?_
 refine e1_2 (vR qe) λso qj q9=> ?_
 refine e2_4 hv λqs st' F hi hz hP=> ?_
 obtain rfl:=pr q9
 obtain rfl:=iR qi
 obtain rfl:=iR qj'
 rw[aZ] at qj
 clear hv qe q9 qi qj'
 have key:∃b items2 k2,vb=.ref b/\JN b=some (bG items2 k2)/\JBF=J1H/\Rel w Γ X st (es++([.loc i,.loc j]++T)) (items2.toList++([va,vb]++vs)) h:=by
  refine J9 H λN own ρ m R=> ?_
  refine e0_3 J14 λz1 z2 zs=> ?_
  refine e1_2 z2.inv λo er1 hρ=> ?_
  clear H hv z2
  obtain rfl:=er1
  cases J96 _ _ _ hρ qj with
  |elist hm hE=>exact (f4 _ _ _ rfl ((JH _ hm).1) hE.len.symm ⟨_,_,_,_,Jj (hE.append J62)⟩)
 refine e3_4 key λb items2 k2 er2 g1 g3 H1=> ?_
 clear key
 refine J3P▸?_
 refine J9 (F.rel g3 H1) λN own ρ m R=> ?_
 have lp:JAa=JBF:=by
  rw[F.len];exact g3.symm
 refine e0_2 (J1N (by rw[J6];exact lp) J62) λy1 y2=> ?_
 rw[aZ] at hi
 refine e0_3 y2.inv2 λz1 z2 zs=> ?_
 refine e1_2 z1.inv λa er3 hρ=> ?_
 refine J4X▸?_
 refine e2_4 (R.listSlot hρ hi) λitems k q1 q2 q3 q4=> ?_
 simp only [J0L] at lp
 have hsz:J12+JH3<=bc:=by unfold bc;exact z40 0x110101100005f8109802a13a100005f832983 hz lp q4
 have hfit:=fit_le hsz
 have R':=JAt (ps:=ps++qs) (h':=JFR a (J2N λx=>x++items2)) hρ hi (by intro z;cases z) q1 (J0f ..) (JD0 (show IsL h a items k from q2) λx=>x++items2) (by rw[J2Y];exact J8N (y1.pvs))
 refine av (JCo (s:=At s h t) J9g (az _ q2 rfl) J9F (J97 _ _)
  (J7P a items k b items2 k2 (by unfold J9l;intro z;have:=(J07 z).2;rw[J1v] at this;exact z30 0x11610929210982 hfit this) (by exact z30 0x11108120981 hfit) (by omega)) (i_aa q2 g1 ?_))
 refine e0_2 (J1N (by rw[J6];simpa using lp) J7o) λw1 w2=> ?_
 refine e0_3 w2.inv2 λo o y=> ?_
 exact hQ _ _ _ _ t ⟨_,_,_,_,J1e (.cons (.pv .none) y)⟩ hP
def FO:BM "extend" n:=⟨"list","list.extend",_,J3C,JCV,JCU,xN⟩
end
def FQ {n:Nat}:BM "append" n:=⟨"list","list.append",_,J3C,J7K,J7J,JEI kf⟩
def ji:Nm:=⟨[("state",.local),("records",.local),("room",.local),("txg",.local),("filled",.local),("left",.local),("record",.local),("part",.local),("_law_parts",.globalImplicit),("_law_size",.globalImplicit),("len",.globalImplicit)],false,["state","records","room","txg","filled","left","record","part"],[],[],false⟩
theorem qT:aG ji ["state","records","room","txg"] [some 0,some 1,some 2,some 3,none,none,none,none] [] (ao (aB 67)):=aw rfl (by rfl)
def qu:PB ji 2 (ay (aB 67)):=
 (.con (.asW (names:=["filled","left"]) (.loc 5 5 (.loc 4 4 .nil)) (.con .lsE (.con .int .nil)))
  (.con (.fr (.of (.loc 1 1) (.loc 6 6)) (.con (.fr (.of (.fn 8 30 56 (J4 (n:=2) (J3 ss (by decide))) (.con (.loc 6 6) (.con (.loc 2 2) .nil))) (.loc 7 7)) (.con (.iff (.cmp iN (.fn 9 29 55 (J4 (n:=2) (J3 ig (by decide))) (.con (.loc 7 7) .nil)) (.loc 5 5)) (.con (.exp (.bm FP (.loc 4 4) (.con (.lsS .nil) .nil)))
  (.con (.asg (.loc 5 5) (.loc 2 2))
  .nil)) .nil)
  (.con (.asg (.key 18 (.loc 0 0)) (.bin aH (.key 18 (.loc 0 0)) .int))
  (.con (.exp (.bm FQ (.last (.loc 4 4)) (.con (.tup (.con (.key 18 (.loc 0 0)) (.con (.loc 7 7) .nil))) .nil)))
  (.con (.asg (.loc 5 5) (.bin cz (.loc 5 5) (.fn 9 29 55 (J4 (n:=2) (J3 ig (by decide))) (.con (.loc 7 7) .nil))))
  .nil)))))
  .nil))
  (.con (.exp (.bm FO (.key 22 (.loc 0 0)) (.con (.loc 4 4) .nil)))
  (.con (.exp (.bm pR (.key 25 (.loc 0 0)) (.con (.bin vT (.lst (.con (.loc 3 3) .nil)) (.bf 10 cv (.con (.loc 4 4) .nil))) .nil)))
  .nil))))
structure LF where
 seq:Int
 fill:List (List (Int×Rc))
 left:Int
def ja {α:Type}:List (List α)->α->List (List α)
 |[],_=>[]
 |[a],x=>[a++[x]]
 |a::b::r,x=>a::ja (b::r) x
theorem dB {α:Type}(a:List (List α)) (b:List α) (x:α):ja (a++[b]) x=a++[b++[x]]:=by
 induction a with
 |nil=>rfl
 |cons c r ih=>
  cases r with
  |nil=>rfl
  |cons d r=>exact JD (c::·) ih
def LF.put (room:Int) (s:LF) (p:Rc):LF:=if JAX<J2m then ⟨J6y+1,J5Z++[[(J6y+1,p)]],room - J2m⟩ else ⟨J6y+1,ja J5Z (J6y+1,p),JAX - J2m⟩
def lcom (room seq:Int) (ps:List Rc):LF:=J9r (J51 room) ⟨seq,[],0⟩
structure LFi (seq:Int) (m:Nat) (s:LF):Prop where
 q:J6y=seq+m
 fl:J2U<=m
 bl:∀b∈J5Z,J2<=m
 em:J5Z=[]->JAX=0
theorem iF (r:Rc):0<(J3F:Int):=by unfold J7f;exact z10 0x10589e0810
theorem pt {α:Type}{l:List α}(h:l≠[]):∃a b,l=a++[b]:=(ic l.dropLast (l.getLast h) ((List.dropLast_concat_getLast h).symm))
theorem LFi.put {seq room:Int}{m:Nat}{s:LF}(h:LFi seq m s) (p:Rc):LFi seq (m+1) (JGp room p):=by
 have h1:=h.q;have h2:=h.fl;have h3:=h.bl;have h4:=h.em
 unfold J51
 by_cases hb:JAX<J2m
 ·rw[JC hb]
  refine⟨by show J6y+1=seq+((m+1:Nat):Int);exact z12 0x1011101809e29181920e29121 h1,by show (J5Z++[_]).length<=_;rw[JO];exact J2e h2,λb hm=> ?_,λz=> ?_⟩
  ·rcases J08 hm with q|q
   ·exact J39 (h3 b q)
   ·rw[JQ q];exact J2e (J1m _)
  ·exact absurd (JD J4p z) (by show (J5Z++[_]).length≠0;rw[JO];exact JDM _)
 ·rw[JL hb]
  refine e2_1 (pt (λz=>hb (by rw[h4 z];exact (iF p)))) λa b e=> ?_
  rw[e] at h2 h3
  refine⟨by show J6y+1=seq+((m+1:Nat):Int);exact z12 0x1011101809e29181920e29121 h1,?_,λc hm=> ?_,λz=> ?_⟩
  ·show (ja J5Z _).length<=_
   rw[e,dB]
   rw[JO] at h2 ⊢
   exact J39 h2
  ·have hm:c∈ja J5Z _:=hm
   rw[e,dB] at hm
   rcases J08 hm with q|q
   ·exact J39 (h3 c (J06 _ q))
   ·rw[JQ q,JO]
    exact J2e (h3 b (J0A _ JB))
  ·have z:ja J5Z _=[]:=z
   rw[e,dB] at z
   exact absurd (JD J4p z) (by rw[JO];exact JDM _)
theorem xv (seq room:Int) (ps:List Rc):∀{m:Nat}{s:LF},LFi seq m s->LFi seq (m+Jt) (J9r (J51 room) s):=by
 induction ps with
 |nil=>exact λh=>h
 |cons p ps ih=>exact λh=>J2O _ Jt▸ih (h.put (room:=room) p)
theorem iS (room seq:Int) (ps:List Rc):LFi seq Jt (lcom room seq ps):=by
 have:=xv seq room ps (m:=0) (s:=⟨seq,[],0⟩) ⟨by simp,Jb _,λy h=>(by cases h),λy=>rfl⟩
 rwa [J4z] at this
theorem se (room seq:Int) (a:List Rc) (p:Rc):lcom room seq (a++[p])=(lcom room seq a).put room p:=by unfold lcom;rw[J7i];rfl
def lcs (a n:Nat):List EV:=(J6n a n).map JGg
def b7 (s:LF) (bss:List (List PV)) (births:List Int):List SO:=
 .sdict [(18,.pv (.int J6y)),(22,.loc 1),(25,.loc 2)]::.list (Ju .lst)::.list (J35 .int)::.elist (lcs 4 J2U)::s.fill.map λb=>.list (J52 cL)
theorem tO (s:LF) (bss:List (List PV)) (births:List Int):(b7 s bss births).length=4+J2U:=by
 unfold b7
 simp only [J0w,J6];exact z10 0x1104891818181809999a0
theorem tN (s:LF) (left:Int) (bss:List (List PV)) (births:List Int):
  upd (b7 s bss births++[.list []]) 3 (.elist (lcs 4 J2U++[.loc (b7 s bss births).length]))=b7 ⟨J6y,J5Z++[[]],left⟩ bss births:=by
 rw[tO]
 unfold b7 lcs
 rw[JO,Ji,J4K,JBO,Ji]
 rfl
theorem r8 (n:Nat):(lcs 4 (n+1)).getLast? =some (.loc (4+n)):=by
 unfold lcs
 rw[JBO,Ji]
 simp
theorem fg (n:Nat):(lcs 4 n).length=n:=by unfold lcs;simp
theorem gv (q l:Int) (ini:List (List (Int×Rc))) (b:List (Int×Rc)) (bss:List (List PV)) (births:List Int):nth (b7 ⟨q,ini++[b],l⟩ bss births) (4+J5C)=some (.list (J52 cL)):=by
 rw[aZ,J4I]
 unfold b7
 show ((ini++[b]).map λb=>JBl (J52 cL))[J5C]? =_
 simp
theorem lC (q l l':Int) (ini:List (List (Int×Rc))) (b:List (Int×Rc)) (x:Int×Rc) (bss:List (List PV)) (births:List Int):
  upd (b7 ⟨q,ini++[b],l⟩ bss births) (4+J5C) (.list (J52 cL++[cL x]))=b7 ⟨q,ja (ini++[b]) x,l'⟩ bss births:=by
 rw[dB,dX,J4I]
 unfold b7
 show (_::_::_::_::((ini++[b]).map λb=>JBl (J52 cL)).set J5C _)=_
 simp
theorem lQ {i:Nat}{st:St}{P:EV->St->Prop}{ps:List PV}{p:PV}(h1:nth J5 i=some (.list ps)) (h2:Jt<65536) (h:P (.pv .none) { st with sl:=upd J5 i (.list (ps++[p])) }):vS [.loc i,.pv p] st P:=by
 show aj (cU pq (.loc i) st) _
 rw[df h1];exact⟨h2,h⟩
theorem vO {i:Nat}{st:St}{ps:List PV}(h1:nth J5 i=some (.list ps)):BP (.loc i) st=some "list":=by
 show (nth J5 i).bind DW=_
 rw[h1];rfl
theorem AG (lo ce co:List (Option EV)) (l:List (List PV)):∀pre:List SO,jo (lcs pre.length JV) ⟨lo,ce,co,pre++JE .list⟩ (JE .lst) ⟨lo,ce,co,pre++J0E JV .dead⟩:=by
 induction l with
 |nil=>exact λpre=>.nil
 |cons v l ih=>
  intro pre
  have h:=ih (pre++[.dead])
  rw[JO,J0U,J0U] at h
  refine .cons (st1:=⟨lo,ce,co,pre++([SO.dead]++JE JBl)⟩) ?_ h
  unfold fzV
  simp [aZ,dX]
structure Gj (room:Int) (rs:List Rc) (bss:List (List PV)) (births:List Int):Prop where
 recs:∀r∈rs,JEz/\i6 room r
 par:∀p∈flat room rs,p.ok
 few:J5n<=10
 fewp:(flat room rs).length<=100
 bl:J0i<=1000
 bi:J3n<=1000
theorem tl {k:List SO->Prop}{l:List SO}(h:k l):fSs l k:=v8.mpr h
theorem tlw {k:List SO->Prop}{l l':List SO}(e:l'=l) (h:k l):fSs l' k:=v8.mpr (e▸h)
theorem nw {k:Nat->Prop}{n:Nat}(h:k n):uM n k:=JEB h
inductive xa (as:List EV) (sl:List SO) (P:EV->List SO->Prop):Prop
 |mk (seq room txg:Int) (rs:List Rc) (bss:List (List PV)) (births:List Int) (h0:as=[.loc 0,.pv (.lst (J6O J6L)),.pv (.int room),.pv (.int txg)]) (h1:sl=[.sdict [(18,.pv (.int seq)),(22,.loc 1),(25,.loc 2)],.list (Ju .lst),.list (J35 .int)]) (h2:Gj room rs bss births) (h3:P (.pv .none) [.sdict [(18,.pv (.int (lcom room seq (flat room rs)).seq)),(22,.loc 1),(25,.loc 2)],.list ((bss++(lcom room seq (flat room rs)).fill.map λb=>J52 cL).map .lst),.list ((births++J0E (lcom room seq (flat room rs)).fill.length txg).map .int)])
def FR (rs:List Rc) (room txg:Int) (s:LF) (x y:Option EV) (sl:List SO):St:=⟨[some (.loc 0),some (.pv (.lst (J6O J6L))),some (.pv (.int room)),some (.pv (.int txg)),some (.loc 3),some (.pv (.int JAX)),x,y],[],[],sl⟩
theorem qg:ac 3 580 4 xa:=ar (kFn 63 rfl) qT aJ qu (by
 rintro _ _ P _ ⟨seq,room,txg,rs,bss,births,rfl,rfl,H,hP⟩
 refine⟨rfl,⟨λk st=>∃x y s,s=lcom room seq (flat room (J3V k))/\st=FR rs room txg s x y (b7 s bss births),(pZ none none _ rfl rfl),?_,?_⟩⟩
 ·intro k x _ hx hq9 K hK
  refine e3_2 hq9 λx1 y1 s hs er0=> ?_
  clear hq9
  obtain rfl:=er0
  have hx:(bt (J6O J6L))[k]? =some x:=hx
  rw[au,JR] at hx
  refine e1_2 (Jw hx) λr hr er0=> ?_
  refine Jm▸?_
  have hft:=o3 (room:=room) hr
  refine⟨rfl,tl ⟨rfl,JEB ⟨r,room,rfl,rfl,(H.recs r (J01 hr)),?_⟩⟩⟩
  refine tlw (J0e (b7 s bss births)) ?_
  refine⟨λj st=>∃x y s,s=lcom room seq (flat room (J3V k)++(parts room r).take j)/\st=FR rs room txg s x y (b7 s bss births),⟨_,y1,s,by rw[JF8,J0e];exact hs,rfl⟩,?_,?_⟩
  ·intro j x _ hx hq9 L hL'
   refine e3_2 hq9 λx2 y2 s hs er1=> ?_
   clear hq9
   obtain rfl:=er1
   have hx:(bt ((parts room r).map J6L))[j]? =some x:=hx
   rw[au,JR] at hx
   refine e1_2 (Jw hx) λp hp er1=> ?_
   refine J0y▸?_
   have hpm:p∈flat room rs:=JBP (az _ (J1o (az r (J01 hr) rfl)) (J01 hp))
   have hpo:=H.par p hpm
   have hI:=iS room seq (flat room (J3V k)++(parts room r).take j)
   rw[<- hs] at hI
   have hL:(flat room (J3V k)++(parts room r).take j).length<=100:=by
    have h1:=gU (room:=room) (rs:=rs) (k:=k+1)
    have h2:=JGe
    rw[hft,JO] at h1
    rw[JO,J0k]
    exact z50 0x100111110111642f81098241c642f838320983 h1 h2 fM
   have e:(parts room r).take (j+1)=(parts room r).take j++[p]:=by rw[J0j,hp];rfl
   have hfl:=hI.fl
   refine⟨rfl,?_⟩
   refine tl ?_
   refine⟨rfl,JEB ⟨p,rfl,rfl,hpo,?_⟩⟩
   refine tlw (J0e (b7 s bss births)) ?_
   by_cases hb:JAX<J2m
   ·have ep:JGp room p=⟨J6y+1,ja (J5Z++[[]]) (J6y+1,p),room - J2m⟩:=by
     unfold J51;rw[JC hb,dB];rfl
    refine cw (Jq hb) ?_
    refine (i_aa rfl (by decide) ?_)
    refine nw ?_
    refine tl ?_
    refine⟨by rw[fg];exact z20 0x111100005f809108642f8182 hL hfl,?_⟩
    refine tlw (tN s room bss births) ?_
    refine tl ?_
    refine⟨rfl,?_⟩
    refine tlw (rfl:_=b7 ⟨J6y+1,J5Z++[[]],room⟩ bss births) ?_
    refine (i_eaa (.loc (4+J2U)) (by rw[JO];exact r8 _) (by rw[fg,JO];show J2U+1<=_;exact z20 0x111100005f818098108642f8182 hL hfl) ?_)
    refine nw ?_
    refine tl ?_
    refine⟨vO (gv _ _ _ _ _ _),?_⟩
    refine⟨(by decide:2<=65536),?_⟩
    refine⟨lQ (gv _ _ _ _ _ _) (by decide) ?_⟩
    refine tlw (lC _ _ (room - J2m) _ _ (J6y+1,p) _ _) ?_
    refine⟨rfl,JEB ⟨p,rfl,rfl,hpo,?_⟩⟩
    refine tlw (J0e (b7 ⟨J6y+1,ja (J5Z++[[]]) (J6y+1,p),room - J2m⟩ bss births)) ?_
    refine tl (hL' _ ⟨x2,some (.pv p.pv),JGp room p,?_,?_⟩)
    ·rw[e,<- J0U,se,<- hs]
    ·rw[ep];rfl
   ·have hne:J5Z≠[]:=λz=>hb (by rw[hI.em z];exact iF p)
    obtain⟨q,fill,left⟩:=s
    refine e2_1 (pt hne) λini b ef=> ?_
    clear hne
    obtain rfl:fill=ini++[b]:=ef
    have ep:J51 room ⟨q,ini++[b],left⟩ p=⟨q+1,ja (ini++[b]) (q+1,p),left - J2m⟩:=JL hb
    have hbl:J2<=100:=JJ (hI.bl b (J0A _ JB)) hL
    have hil:J5C+1<=100:=by
     have hfl:(ini++[b]).length<=_:=hfl
     rw[JO] at hfl
     exact JJ hfl hL
    refine bu (J0K hb) ?_
    refine⟨rfl,?_⟩
    refine tlw (rfl:_=b7 ⟨q+1,ini++[b],left⟩ bss births) ?_
    refine⟨.loc (4+J5C),by rw[JO];exact r8 _,by rw[fg,JO];show J5C+1<=_;omega,?_⟩
    refine nw ?_
    refine tl ?_
    refine⟨vO (gv _ _ _ _ _ _),?_⟩
    refine⟨(by decide:2<=65536),?_⟩
    refine⟨lQ (gv _ _ _ _ _ _) (by rw[J6];omega) ?_⟩
    refine tlw (lC _ _ (left - J2m) _ _ (q+1,p) _ _) ?_
    refine⟨rfl,JEB ⟨p,rfl,rfl,hpo,?_⟩⟩
    refine tlw (J0e (b7 ⟨q+1,ja (ini++[b]) (q+1,p),left - J2m⟩ bss births)) ?_
    refine tl (hL' _ ⟨x2,some (.pv p.pv),J51 room ⟨q,ini++[b],left⟩ p,?_,?_⟩)
    ·rw[e,<- J0U,se,<- hs]
    ·rw[ep];rfl
  ·intro st2 hq9
   refine e3_2 hq9 λx2 y2 s hs e3=> ?_
   clear hq9
   have e2:(parts room r).take (bt ((parts room r).map J6L)).length=parts room r:=by rw[au,J6,J0a]
   have hs:=hs.trans (JD (λl=>lcom room seq (flat room (J3V k)++l)) e2)
   subst e3
   exact⟨rfl,hK _ ⟨x2,y2,s,by rw[hft];exact hs,rfl⟩⟩
 ·intro st2 hq9
  refine e3_2 hq9 λx1 y1 s hs e3=> ?_
  clear hq9
  have e2:J3V (bt (J6O J6L)).length=rs:=by rw[au,J6,J0a]
  have hs:=hs.trans (JD (λl=>lcom room seq (flat room l)) e2)
  subst e3
  rw[<- hs] at hP
  have hI:=iS room seq (flat room rs)
  rw[<- hs] at hI
  have hfw:=JGe
  have hbl:=JFD
  have hbi:=H.bi
  have hfl:=hI.fl
  have hz:=AG [some (.loc 0),some (.pv (.lst (J6O J6L))),some (.pv (.int room)),some (.pv (.int txg)),some (.loc 3),some (.pv (.int JAX)),x1,y1] [] [] (s.fill.map λb=>J52 cL)
   [.sdict [(18,.pv (.int J6y)),(22,.loc 1),(25,.loc 2)],.list (Ju .lst),.list (J35 .int),.elist (lcs 4 J2U)]
  rw[J6,Js] at hz
  refine⟨rfl,?_⟩
  refine⟨rfl,_,_,hz,rfl,by rw[J6,J6,J6];exact z30 0x1111100005f810982183e83f808642f8283 hfw hbl hfl,?_⟩
  refine tl ?_
  refine⟨rfl,?_⟩
  refine⟨(by decide:1<=65536),?_⟩
  rw[Ji,show (births++J0E J2U txg).map J3G=J35 .int++J0E (((lcs 4 J2U).length:Nat):Int).toNat (.int txg) from by rw[fg,J0l,Ji,J7D]] at hP
  refine⟨by rw[fg];exact z20 0x111100005f808108642f8182 hfw hfl,?_⟩
  refine tl ?_
  refine⟨⟨J1G _,by rw[fg];exact z20 0x111100005f80e0108642f8182 hfw hfl⟩,?_⟩
  refine⟨by rw[fg,J0l,J6,J4L];exact z30 0x1111100005f810982183e83f808642f8283 hfw hbi hfl,?_⟩
  refine tl ?_
  exact hP)
theorem gy {i:Nat}{st:St}{P:EV->St->Prop}{ps:List PV}{k:Int}{q:PV}(h1:nth J5 i=some (.list ps)) (h2:0<=k/\k<65536) (h3:ps[J2i]? =some q) (h:P (.pv q) st):pN (.loc i) (.pv (.int k)) st P:=by
 show bj ((nth J5 i).bind pq) _ _
 rw[h1]
 refine⟨h2,?_⟩
 rw[aZ,h3];exact h
theorem my {bss:List (List PV)}{k:Int}(h0:0<=k) (h:J2i<=J0i):cut (Ju J2n) none (some k)=(J1h J2i).map J2n:=by
 obtain⟨n,rfl⟩:∃n:Nat,k=n:=⟨J2i,by exact z01 0x10010100110100100100e020700802 h0 fT⟩
 rw[mx (by rw[J6];exact h),<- JA8];rfl
theorem wA {r:Int}(o:UInt8) (h0:0<=r) (h1:r<255):o≠(Jh ((o.toNat:Int)+1+r) 256).toNat.toUInt8:=by
 intro h
 have ho:=o.toNat_lt
 rw[J4v _ (by decide)] at h
 have h2:=JD UInt8.toNat h
 rw[Nat.toUInt8_eq,UInt8.toNat_ofNat'] at h2
 omega
theorem rmd_ok:(rmd [47,122]).ok where
 find:=by rfl
 at_:=⟨4,by decide⟩
 flds:=by intro f hf;rw[JQ hf];exact⟨by unfold okT;decide,by decide⟩
 few:=by decide
 one:=by decide
theorem zy {size:Nat}{chain txg:Int}{L:LS}{r:Rc}(h:(J3F:Int)<=size - 20 - 16):gx size chain txg (pM size chain txg (size - 20 - 16) L (mkRows 0 (flat (size - 20 - 16) [r])))=L.put size chain txg (rowB 1 r):=by
 have e1:flat (size - 20 - 16) [r]=[r]:=by unfold flat;rw[J2s,parts_le h];rfl
 rw[e1]
 show gx size chain txg (bH size chain txg (size - 20 - 16) (L,[]) (rowB 1 r))=_
 have e2:bH size chain txg (size - 20 - 16) (L,[]) (rowB 1 r)=(L,rowB 1 r):=by
  unfold bH
  rw[JL (by rw[bS];show ¬((size:Int) - 20 - 16<((0:Nat):Int)+_);exact z20 0x111e08e9102f8142f80eaa13102f8142f80eaa1e01 h)];rfl
 rw[e2]
 have e3:=bS 1 r
 unfold gx
 generalize rowB 1 r=w at e3
 cases w with
 |nil=>exact absurd e3 (by unfold J7f;show ¬(0=_);exact z10 0x10058908a30)
 |cons a w=>rfl
def c0:Nm:=⟨[("tape",.local),("io",.local),("log",.local),("state",.local),("many",.local),("way",.local),("at",.local),("other",.local),("pointer",.local),("octets",.local),("place",.local),("turned_now",.local),("strange",.local),("whole",.local),("len",.globalImplicit),("_law_next",.globalImplicit),("bytes",.globalImplicit),("IntentLog",.globalImplicit),("rows_of",.globalImplicit),("_law_rows",.globalImplicit)],false,["tape","io","log","state","many","way","at","other","pointer","octets","place","turned_now","strange","whole"],[],[],false⟩
theorem qU:aG c0 ["tape","io","log","state"] [some 0,some 1,some 2,some 3,none,none,none,none,none,none,none,none,none,none] [] (ao (aB 72)):=aw rfl (by rfl)
def sF:PB c0 8 ((ay (aB 72)).drop 6):=
  (.con (.ret (.cmp cg (.fn 18 25 44 (J4 (n:=8) (J3 jF (by decide))) (.con (.loc 1 1) (.con (.me 4 14 35 none (J4 (n:=8) (J3 dl (by decide))) (.loc 2 2) .nil) .nil))) (.fn 19 32 58 (J4 (n:=8) (J3 mf (by decide))) (.con (.slc (.key 22 (.loc 3 3)) .non (.som (.loc 13 13))) .nil))))
  .nil)
def fm:PB c0 8 ((ay (aB 72)).drop 4):=
  (.con (.iff (.cmp cg (.loc 5 5) .int) (.con (.exp (.me 5 25 52 none (J4 (n:=8) (J3 eu (by decide))) (.loc 1 1) (.con (.loc 8 8) (.con (.bf 16 dG (.con (.bf 14 cv (.con (.loc 9 9) .nil)) .nil)) .nil))))
  .nil) (.con (.iff (.cmp cg (.loc 5 5) .int) (.con (.asg (.loc 10 10) (.bin b8 (.bin aH (.bin dE (.loc 7 7) .int) (.fn 15 27 53 (J4 (n:=8) (J3 aW (by decide))) (.con (.loc 0 0) .nil))) (.bf 14 cv (.con (.loc 9 9) .nil))))
  (.con (.asg (.loc 11 11) (.bin b8 (.bin aH (.bin aH (.sub (.loc 9 9) (.loc 10 10)) .int) (.bin b8 (.fn 15 27 53 (J4 (n:=8) (J3 aW (by decide))) (.con (.loc 0 0) .nil)) .int)) .int))
  (.con (.exp (.me 5 25 52 none (J4 (n:=8) (J3 eu (by decide))) (.loc 1 1) (.con (.loc 8 8) (.con (.bin aH (.bin aH (.slc (.loc 9 9) .non (.som (.loc 10 10))) (.bf 16 dG (.con (.lst (.con (.loc 11 11) .nil)) .nil))) (.slc (.loc 9 9) (.som (.bin aH (.loc 10 10) .int)) .non)) .nil))))
  .nil))) (.con (.iff (.cmp cg (.loc 5 5) .int) (.con (.exp (.me 5 25 52 none (J4 (n:=8) (J3 eu (by decide))) (.loc 1 1) (.con (.loc 8 8) (.con (.me 5 22 49 none (J4 (n:=8) (J3 et (by decide))) (.loc 1 1) (.con (.sub (.att 4 19 (.loc 2 2)) (.loc 7 7)) .nil)) .nil))))
  .nil) (.con (.asg (.loc 12 12) (.fn 17 44 70 (bC (n:=7) (J3 ii (by decide)) (eI 4 rfl) (d6 12 rfl)) (.con (.loc 1 1) (.con (.bf 14 cv (.con (.loc 9 9) .nil)) (.con (.bin aH (.att 4 16 (.loc 2 2)) .int) (.con .int .nil))))))
  (.con (.asg (.att 4 17 (.loc 12 12)) (.loc 6 6))
  (.con (.exp (.me 4 16 37 none (J4 (n:=8) (J3 d8 (by decide))) (.loc 12 12) (.con (.lst (.con (.tup (.con .str (.con .str .nil))) .nil)) (.con .int .nil))))
  (.con (.exp (.me 5 25 52 none (J4 (n:=8) (J3 eu (by decide))) (.loc 1 1) (.con (.loc 8 8) (.con (.me 5 22 49 none (J4 (n:=8) (J3 et (by decide))) (.loc 1 1) (.con (.sub (.att 4 19 (.loc 12 12)) .int) .nil)) .nil))))
  .nil)))))
  .nil))
  .nil))
  (.con (.asg (.loc 13 13) (.ife (.an (.cmp cg (.loc 5 5) .int) (.an (.cmp cg (.loc 6 6) (.loc 7 7)) .an0)) (.loc 4 4) (.loc 6 6)))
  sF))
def sG:PB c0 8 ((ay (aB 72)).drop 2):=
  (.con (.asg (.loc 8 8) (.sub (.att 4 19 (.loc 2 2)) (.loc 6 6)))
  (.con (.asg (.loc 9 9) (.me 5 22 49 none (J4 (n:=8) (J3 et (by decide))) (.loc 1 1) (.con (.loc 8 8) .nil)))
  fm))
def qv:PB c0 8 (ay (aB 72)):=
 (.con (.asW (names:=["many","way"]) (.loc 5 5 (.loc 4 4 .nil)) (.con (.bf 14 cv (.con (.key 22 (.loc 3 3)) .nil)) (.con (.bin b8 (.fn 15 27 53 (J4 (n:=8) (J3 aW (by decide))) (.con (.loc 0 0) .nil)) .int) .nil)))
  (.con (.asW (names:=["at","other"]) (.loc 7 7 (.loc 6 6 .nil)) (.con (.bin b8 (.fn 15 27 53 (J4 (n:=8) (J3 aW (by decide))) (.con (.loc 0 0) .nil)) (.loc 4 4)) (.con (.bin b8 (.fn 15 27 53 (J4 (n:=8) (J3 aW (by decide))) (.con (.loc 0 0) .nil)) (.loc 4 4)) .nil)))
  sG))
inductive mM (D:be) (head:Pt) (bs:List (List PV)):Prop
 |mk (l rss:_) (e0:ew D head.fill 0 head l) (e1:JV<=200) (e2:jd l rss) (e3:J8K cL=bs.flatten) (e4:datNs 8 bs.flatten=true) (e5:bs.flatten.length<=60000)
def chg (b:List UInt8) (p:Int) (x:UInt8):List UInt8:=cut b none (some p)++[x]++cut b (some (p+1)) none
def strange (size:Nat) (chain:Int) (s:LS) (at_:Int):LS:=
 JEd size (chain+1) 9 ⟨at_,⟨0,JP,aq size,size,9,chain+1⟩,[],aY [0,JP,aq size] (.bytes (aQ size)) JU,JP+aq size,J95+1⟩ (rowB 1 (rmd [47,122]))
def cT (size:Nat) (chain:Int) (s:LS) (at_:Int):List UInt8:=bO (chain+1) at_ (rowB 1 (rmd [47,122])) 0 (JP+aq size) (aq size) 9 size
structure vG (size:Nat) (chain:Int) (s:LS) (bss:List (List PV)):Prop where
 sz:64<=size/\size<=1000
 ch:0<=chain/\chain<900000
 many:1<=J0i/\J0i<=60
 wl:J6c=J0i
 bl:J4d<=1000
 nx:0<=JP/\JP<50000
 oct:∀q∈JCc,J7m=size/\∃b:List UInt8,aE [q.v,q.p,q.c] JU=some (.bytes b)/\J2=size
 z:∀(i:Nat) q,JCc[i]? =some q->mM (aY q.k (.bytes (aQ size)) JU) J6z (J1h i)
 o:∀(i:Nat) q (b:List UInt8) (p:Nat) x,JCc[i]? =some q->aE [q.v,q.p,q.c] JU=some (.bytes b)->p<size->J9b p 0≠x->mM (aY q.k (.bytes (chg b p x)) JU) J6z (J1h i)
 m:∀(i j:Nat) q q' (b:List UInt8),JCc[i]? =some q->JCc[j]? =some q'->aE [q'.v,q'.p,q'.c] JU=some (.bytes b)->mM (aY q.k (.bytes b) JU) J6z (J1h (if i=j then J0i else i))
 st:∀(i:Nat) q,JCc[i]? =some q->mM (aY q.k (.bytes (cT size chain s i)) (J9p size chain s i).blocks) J6z (J1h i)
def brS (t:List Int) (size:Nat) (chain seq:Int) (blocks gone:be) (s:LS) (bss:List (List PV)) (births:List Int):List SO:=
 [.list (t.map .int),.inst 543 [(21,.pv (.int 16)),(22,.loc 4),(23,.loc 5),(24,.pv (.int JP)),(19,.pv (.int J95))],
 .inst 433 [(14,.loc 1),(15,.pv (.int size)),(16,.pv (.int chain)),(17,.pv (.int J2T)),(18,.pv (.int seq)),(19,.loc 6),(20,.pv J7k)],
 .sdict [(18,.pv (.int seq)),(22,.loc 7),(25,.loc 8)],.tdict blocks,.tdict gone,.list (J2S Jv),.list (Ju .lst),.list (J35 .int)]
inductive zg (as:List EV) (sl:List SO) (P:EV->List SO->Prop):Prop
 |mk (t:List Int) (size:Nat) (chain seq:Int) (gone:be) (s:LS) (bss:List (List PV)) (births:List Int) (h0:as=[.loc 0,.loc 1,.loc 2,.loc 3]) (h1:sl=brS t size chain seq JU gone s bss births) (h2:(vG size chain s bss/\J6C<=63)) (h3:∀sl',P (.pv (.bool true)) sl')
def xw (t:List Int) (size:Nat) (chain seq:Int) (gone:be) (s:LS) (bss:List (List PV)) (births:List Int) (way at_ other:Int) (q:Pt) (b:List UInt8):St:=
 ⟨[some (.loc 0),some (.loc 1),some (.loc 2),some (.loc 3),some (.pv (.int (Ju J2n).length)),some (.pv (.int way)),some (.pv (.int at_)),some (.pv (.int other)),some (.pv JG6),some (.pv (.bytes b)),none,none,none,none],[],[],brS t size chain seq JU gone s bss births⟩
theorem pS {P:EV->List SO->Prop}{x0:List PV}{size k:Nat}{chain seq w n1 n2:Int}{gone D:be}{s:LS}{bss:List (List PV)}{bi:List PV}{x4 x5 x6 x7 x8 x9 x10 x11 x12:Option EV}
  (hc:cut (Ju J2n) none (some w)=(J1h k).map J2n) (hm:J0i<=60) (hk:mM D J6z (J1h k)) (hwl:J6c=J0i) (hP:∀sl',P (.pv (.bool true)) sl'):
  sF.vc ⟨[some (.loc 0),some (.loc 1),some (.loc 2),some (.loc 3),x4,x5,x6,x7,x8,x9,x10,x11,x12,some (.pv (.int w))],[],[],
   .list x0::.inst 543 [(21,.pv (.int 16)),(22,.loc 4),(23,.loc 5),(24,.pv (.int n1)),(19,.pv (.int n2))]::.inst 433 [(14,.loc 1),(15,.pv (.int size)),(16,.pv (.int chain)),(17,.pv (.int J2T)),(18,.pv (.int seq)),(19,.loc 6),(20,.pv J7k)]::
   .sdict [(18,.pv (.int seq)),(22,.loc 7),(25,.loc 8)]::.tdict D::.tdict gone::.list (J2S Jv)::.list (Ju .lst)::.list bi::[]⟩ (nM 9 P):=by
 obtain⟨l,rss,r1,r2,r3,r4,r5,r6⟩:=hk
 have hl:(J2S Jv).length<=1000:=by rw[J6,hwl];exact JJ hm (by decide)
 have hl2:(Ju J2n).length<=65536:=by rw[J6];exact JJ hm (by decide)
 refine (ax rfl trivial rfl ⟨size,chain,J2T,seq,J7k,J2S Jv,_,gone,_,_,rfl,rfl,⟨hl,rfl⟩,?_⟩)
 rw[lb]
 refine⟨rfl,_,gone,_,_,rfl,.inr (cC J6z l rss rfl (i_aa r1 r2 r3) ?_)⟩
 rw[r4]
 refine⟨hl2,?_⟩
 rw[hc]
 exact⟨rfl,J1h k,r6,.inr (ax rfl rfl (λz=>absurd rfl z) (λy=>(i_aa rfl r5 (hP _))))⟩
section
variable {P:EV->List SO->Prop}{t:List Int}{size:Nat}{chain seq at_ other:Int}{gone:be}{s:LS}{bss:List (List PV)}{births:List Int}{q:Pt}{b:List UInt8}
theorem GT (H:vG size chain s bss) (ba:0<=at_/\at_<J0i) (hq:JCc[J2L]? =some q) (hb:aE [q.v,q.p,q.c] JU=some (.bytes b)) (hbl:J2=size) (hP:∀sl',P (.pv (.bool true)) sl'):JFT (xw t size chain seq gone s bss births 0 at_ other q b) (nM 9 P):=by
 have hk:=H.z J2L q hq
 unfold aQ at hk
 rw[show size=((J2:Nat):Int).toNat by omega] at hk
 have hk:mM (aY [q.v,q.p,q.c] _ JU) _ _:=hk
 have hsm:(aE [q.v,q.p,q.c] JU).isSome=true:=by rw[hb];rfl
 have hm:=JCS.2
 have hct:cut (Ju J2n) none (some at_)=(J1h J2L).map J2n:=my ba.1 (by exact z11 0x1001010011018170e112 ba.2 fT)
 have hz:=H.sz.2
 have b1:J2<=65536:=hbl▸JJ hz (by decide)
 have b2:(0:Int)<=(J2:Int)/\(J2:Int)<=65536:=⟨J1G _,J4P b1⟩
 have hbk:J4d<=65536:=JJ JFD (by decide)
 exact (dM rfl trivial b1 b2 rfl ⟨JU,gone,JP,J95,q.v,q.p,q.c,J7m,J4e,J5a,_,rfl,rfl,⟨hsm,hbk⟩,((pS hct hm hk H.wl hP))⟩)
theorem GS (H:vG size chain s bss) (ht:J6C<=63) (ht2:J32<=63) (ba:0<=at_/\at_<J0i) (bo:0<=other/\other<J0i) (hq:JCc[J2L]? =some q) (hb:aE [q.v,q.p,q.c] JU=some (.bytes b)) (hbl:J2=size) (hP:∀sl',P (.pv (.bool true)) sl'):JFT (xw t size chain seq gone s bss births 1 at_ other q b) (nM 9 P):=by
 have hm:=JCS.2
 have hct:cut (Ju J2n) none (some at_)=(J1h J2L).map J2n:=my ba.1 (by exact z11 0x1001010011018170e112 ba.2 fT)
 have hsm:(aE [q.v,q.p,q.c] JU).isSome=true:=by rw[hb];rfl
 have hbk:J4d<=65536:=JJ JFD (by decide)
 have hsz:=H.sz
 have hp:=bE (other*7+aK t) (k:=(J2:Int)) (by exact z20 0x11100e0811402f8810a2 hbl hsz.1)
 have hw:=bE (aK J0h) (k:=255) (by decide)
 have key:∀place,Jh (other*7+aK t) (J2:Int)=place->∀v,Jh (((J9b J8P 0).toNat:Int)+1+Jh (aK J0h) 255) 256=v->JFT (xw t size chain seq gone s bss births 1 at_ other q b) (nM 9 P):=λplace hpl v hvl=>by
  rw[hpl] at hp
  have hv:=bE (((J9b J8P 0).toNat:Int)+1+Jh (aK J0h) 255) (k:=256) (by decide)
  have hx:=wA (J9b J8P 0) hw.1 hw.2
  rw[hvl] at hv hx
  have hc1:(cut b none (some place)).length<=1000:=JJ (uZ _ _ _) (by exact z20 0x11013e83f8083e83f81810a2 hbl hsz.2)
  have hc2:(cut b (some (place+1)) none).length<=1000:=JJ (uZ _ _ _) (by exact z20 0x11013e83f8083e83f81810a2 hbl hsz.2)
  have hk:=H.o J2L q b J8P v.toNat.toUInt8 hq hb (by exact z21 0x100010010011001029271e21208001a4 hbl hp.1 hp.2 fT) hx
  unfold chg at hk
  rw[J2X hp.1] at hk
  have hk:mM (aY [q.v,q.p,q.c] (.bytes (cut b none (some place)++[v].map (λk=>J3k)++cut b (some (place+1)) none)) JU) _ _:=hk
  have b1:J2<=65536:=hbl▸JJ hsz.2 (by decide)
  have h0:(J2:Int)≠0:=by exact z20 0x1110080e231402f8810a2 hbl hsz.1
  have hv1:vq [v]=true:=by
   unfold vq;simp;omega
  have q1:(cut b none (some place)).length+1<=bc:=by unfold bc;omega
  have q2:(cut b none (some place)++[v].map (λk=>J3k)).length+(cut b (some (place+1)) none).length<=bc:=by rw[JO];show _+1+_<=bc;unfold bc;exact z20 0x111100005f811809983e83f8183e83f8082 hc1 hc2
  refine ((i_aa (by exact z21 0x1000011001110100000000000000000f80920f3c2f8181e2120804 bo.1 bo.2 hm fA) rfl ⟨t,rfl,rfl,ht,(i_aa b1 h0 ?_)⟩))
  rw[hpl]
  refine⟨(i_aa (i_aa hp.1 (by omega) (by omega)) rfl ⟨J0h,rfl,rfl,ht2,(i_aa (by decide) (by decide) ?_)⟩)⟩
  rw[hvl]
  exact (d7 rfl trivial (by omega) (by decide:1<=65536) ⟨hv1,(by decide:1<=65536)⟩ q1 (by omega) q2 ⟨rfl,JU,gone,JP,J95,q.v,q.p,q.c,J7m,J4e,J5a,_,rfl,rfl,⟨hsm,hbk⟩,((pS hct hm hk H.wl hP))⟩)
 exact key _ rfl _ rfl
theorem GR (H:vG size chain s bss) (ba:0<=at_/\at_<J0i) (bo:0<=other/\other<J0i) (hq:JCc[J2L]? =some q) (hb:aE [q.v,q.p,q.c] JU=some (.bytes b)) (hP:∀sl',P (.pv (.bool true)) sl'):JFT (xw t size chain seq gone s bss births 2 at_ other q b) (nM 9 P):=by
 have hm:=JCS.2
 have hwl:=H.wl
 have hsm:(aE [q.v,q.p,q.c] JU).isSome=true:=by rw[hb];rfl
 have hbk:J4d<=65536:=JJ JFD (by decide)
 obtain⟨q',hq'⟩:∃q',JCc[JBZ]? =some q':=⟨_,Jy (by exact z21 0x1000001100110100292710a1e2120804 bo.1 bo.2 hwl fT)⟩
 obtain⟨qs',b',hb',hbl'⟩:=H.oct q' (J01 hq')
 have hb1:JEJ<=1000:=hbl'.symm▸H.sz.2
 have hp:q'.pv=ptr q'.v q'.p q'.c (JEJ:Nat) JFK JGx:=by rw[hbl',<- qs'];rfl
 have hi:(J2S Jv)[JBZ]? =some q'.pv:=by rw[JR,hq'];rfl
 have hk:mM (aY [q.v,q.p,q.c] (.bytes b') JU) _ _:=H.m J2L JBZ q q' b' hq hq' hb'
 by_cases hao:at_=other
 ·rw[JC (JD JB1 hao)] at hk
  have hct:cut (Ju J2n) none (some ((Ju J2n).length:Int))=(J1h J0i).map J2n:=by rw[my (J1G _) (by rw[J0l,J6];exact Jb _),J0l,show (Ju J2n).length=J0i from J6 _]
  have hd:((at_==other)==true)=true:=by rw[hao];simp
  refine (((cM rfl trivial rfl trivial rfl rfl ⟨gy rfl ⟨bo.1,by exact z11 0x111100005f8113c2f8080e112 bo.2 hm⟩ hi ?_⟩)))
  exact⟨rfl,JU,gone,JP,J95,q'.v,q'.p,q'.c,JFK,JGx,b',by rw[hp],rfl,⟨hb',hb1⟩,rfl,JU,gone,JP,J95,q.v,q.p,q.c,J7m,J4e,J5a,_,rfl,rfl,⟨hsm,hbk⟩,(cw hd ((pS hct hm hk hwl hP)))⟩
 ·rw[JL (by exact z02 0x1001100000010011000100000010010010101000000010000100000100001001000001011001000110010a317071023108000805 ba.1 bo.1 hao fT fT)] at hk
  have hct:cut (Ju J2n) none (some at_)=(J1h J2L).map J2n:=my ba.1 (by exact z11 0x1001010011018170e112 ba.2 fT)
  have hd:((at_==other)==true)=false:=by simp [hao]
  refine (((cM rfl trivial rfl trivial rfl rfl ⟨gy rfl ⟨bo.1,by exact z11 0x111100005f8113c2f8080e112 bo.2 hm⟩ hi ?_⟩)))
  exact⟨rfl,JU,gone,JP,J95,q'.v,q'.p,q'.c,JFK,JGx,b',by rw[hp],rfl,⟨hb',hb1⟩,rfl,JU,gone,JP,J95,q.v,q.p,q.c,J7m,J4e,J5a,_,rfl,rfl,⟨hsm,hbk⟩,(bu hd ((pS hct hm hk hwl hP)))⟩
theorem GQ (H:vG size chain s bss) (ba:0<=at_/\at_<J0i) (hq:JCc[J2L]? =some q) (hb:aE [q.v,q.p,q.c] JU=some (.bytes b)) (hbl:J2=size) (hP:∀sl',P (.pv (.bool true)) sl'):JFT (xw t size chain seq gone s bss births 3 at_ other q b) (nM 9 P):=by
 have hm:=JCS.2
 have hwl:=H.wl
 have hsm:(aE [q.v,q.p,q.c] JU).isSome=true:=by rw[hb];rfl
 have hblk:=JFD
 have hsz:=H.sz
 have hch:=H.ch
 have hnx:=H.nx
 have hc:=u4 (n:=size) hsz.2
 have hct:cut (Ju J2n) none (some at_)=(J1h J2L).map J2n:=my ba.1 (by exact z11 0x1001010011018170e112 ba.2 fT)
 have b1:J2<=65536:=hbl▸JJ hsz.2 (by decide)
 have hrs:(rmd [47,122]).size=8:=by decide
 have hzs:J11 "/z"=⟨#[47,122]⟩:=by decide
 have hrs2:((rmd [47,122]).size:Int)<=size - 20 - 16:=by rw[hrs];exact z10 0x11102f8142f80eaa88e00402f881 hsz.1
 have hfl:flat (size - 20 - 16) [rmd [47,122]]=[rmd [47,122]]:=by unfold flat;rw[J2s,parts_le hrs2];rfl
 have hsl:(cT size chain s at_).length=size:=cR (by rw[bS,hrs];omega)
 have hsl2:(cT size chain s at_).length<=1000:=hsl.symm▸hsz.2
 have hpt:(⟨0,JP,aq size,size,9,chain+1⟩:Pt).pv=ptr 0 JP (aq size) ((cT size chain s at_).length:Nat) 9 (chain+1):=by rw[hsl];rfl
 have hk:=H.st J2L q hq
 rw[J2X ba.1] at hk
 have hk:mM (aY [q.v,q.p,q.c] (.bytes (cT size chain s at_)) (J9p size chain s at_).blocks) _ _:=hk
 have hlen:(J9p size chain s at_).blocks.length<=65536:=by
  have h1:=dv [0,JP,aq size] (.bytes (cT size chain s at_)) (aY [0,JP+aq size,aq size] (.bytes (aQ size)) (aY [0,JP,aq size] (.bytes (aQ size)) JU))
  have h2:=dv [0,JP+aq size,aq size] (.bytes (aQ size)) (aY [0,JP,aq size] (.bytes (aQ size)) JU)
  have h3:=dv [0,JP,aq size] (.bytes (aQ size)) JU
  show (aY [0,JP,aq size] (.bytes (cT size chain s at_)) (aY [0,JP+aq size,aq size] (.bytes (aQ size)) (aY [0,JP,aq size] (.bytes (aQ size)) JU))).length<=_
  exact z40 0x11111100005f8081819381839281829083e83f8184 hblk h1 h2 h3
 have hsm2:(aE [q.v,q.p,q.c] (J9p size chain s at_).blocks).isSome=true:=dk _ _ (dk _ _ (dk _ _ hsm _ _) _ _) _ _
 have hco:wu size (chain+1) 0 9 ⟨at_,⟨0,JP,aq size,size,9,chain+1⟩,[],aY [0,JP,aq size] (.bytes (aQ size)) JU,JP+aq size,J95+1⟩ [rmd [47,122]]:=by
  have hst:=dv [0,JP,aq size] (.bytes (aQ size)) JU
  refine⟨λr h=>by rw[JQ h];exact⟨rmd_ok,.inl hrs2⟩,?_,by decide,by rw[hfl];decide,by decide,?_,by exact z10 0x1101013e83f8080252f8843e83f8080402f882 hsz.1 hsz.2,by exact z01 0x110101f42405f81809118090804dbba05f80100802 hch.1 hch.2,by decide⟩
  ·rw[hfl];intro p h;rw[JQ h];exact (i_aa rmd_ok (by decide) hrs2)
  ·rw[hfl]
   exact⟨by show 0<=at_/\at_+2<_;exact z11 0x11101001f42405f828191108043c2f8080e1110803 ba.1 ba.2 hm,by show 0<=JP+aq size/\JP+aq size+64*2<_;exact z02 0x1101010101186a05f828402fb109911090804402f8101080c3504f80100804 hnx.1 hnx.2 hc.1 hc.2,by show (aY _ _ _).length+2<=_;exact z20 0x111c3504f8280981819083e83f8182 hblk hst,by show 0+2<=1000;decide,mc _ _ _,rfl,rfl⟩
 have hl1:(J2S Jv).length<=1000:=by rw[J6];exact z20 0x10113e83f80810a3c2f8182 hm hwl
 have hl2:(Ju J2n).length<=65536:=by rw[J6];omega
 refine (((bv b1 rfl rfl rfl ⟨size,chain+1,0,JU,gone,JP,J95,9,by rw[hbl];rfl,λy=>rfl,rfl,(bv (by omega) (by omega) (by exact z01 0x11180918000801 hch.1) (by omega) (by exact z11 0x10001100110186a05f80910fc3504f81110803 hnx.1 hnx.2 fA)),(ax rfl rfl rfl ?_)⟩)))
 refine (dM rfl trivial (by decide) (by decide) rfl ⟨size,chain+1,0,9,gone,⟨at_,⟨0,JP,aq size,size,9,chain+1⟩,[],aY [0,JP,aq size] (.bytes (aQ size)) JU,JP+aq size,J95+1⟩,[rmd [47,122]],by rw[hzs];rfl,rfl,hco,?_⟩)
 rw[zy hrs2]
 refine (cM rfl trivial rfl trivial rfl rfl ⟨gy rfl (by decide) rfl ?_⟩)
 refine⟨rfl,(J9p size chain s at_).blocks,gone,JP+aq size+aq size,J95+1+1+1,0,JP,aq size,9,chain+1,cT size chain s at_,by rw[hpt],rfl,⟨gF _ _ _,hsl2⟩,?_⟩
 refine⟨rfl,(J9p size chain s at_).blocks,gone,JP+aq size+aq size,J95+1+1+1,q.v,q.p,q.c,J7m,J4e,J5a,cT size chain s at_,rfl,rfl,⟨hsm2,hlen⟩,(?_)⟩
 obtain⟨l,rss,r1,r2,r3,r4,r5,r6⟩:=hk
 refine (ax rfl trivial rfl ⟨size,chain,J2T,seq,J7k,J2S Jv,_,gone,_,_,rfl,rfl,⟨hl1,rfl⟩,?_⟩)
 rw[lb]
 refine⟨rfl,_,gone,_,_,rfl,.inr (cC J6z l rss rfl (i_aa r1 r2 r3) ?_)⟩
 rw[r4]
 refine⟨hl2,?_⟩
 rw[hct]
 exact⟨rfl,J1h J2L,r6,.inr (ax rfl rfl (λz=>absurd rfl z) (λy=>(i_aa rfl r5 (hP _))))⟩
theorem Ev {way:Int}(H:vG size chain s bss) (ht:J6C<=63) (ht2:J32<=63) (bw:0<=way/\way<4) (ba:0<=at_/\at_<J0i) (bo:0<=other/\other<J0i) (hP:∀sl',P (.pv (.bool true)) sl'):
  sG.vc ⟨[some (.loc 0),some (.loc 1),some (.loc 2),some (.loc 3),some (.pv (.int (Ju J2n).length)),some (.pv (.int way)),some (.pv (.int at_)),some (.pv (.int other)),none,none,none,none,none,none],[],[],brS t size chain seq JU gone s bss births⟩ (nM 9 P):=by
 have hwl:=H.wl
 have hm:=JCS
 obtain⟨q,hq⟩:∃q,JCc[J2L]? =some q:=⟨_,Jy (by exact z21 0x1000001100110100292710a1e2120804 ba.1 ba.2 hwl fT)⟩
 obtain⟨qs,b,hb,hbl⟩:=H.oct q (J01 hq)
 have hb1:J2<=1000:=hbl.symm▸H.sz.2
 have hp:JG6=ptr q.v q.p q.c (J2:Nat) J4e J5a:=by rw[hbl,<- qs];rfl
 have hi:(J2S Jv)[J2L]? =some JG6:=by rw[JR,hq];rfl
 have hw4:way=0∨way=1∨way=2∨way=3:=by exact z01 0x1000101100000110000110000011000011000011000011000001010001010001010001010001010001010001010001013802280251802508025480100802 bw.1 bw.2
 have go:JFT (xw t size chain seq gone s bss births way at_ other q b) (nM 9 P):=by
  clear bw
  rcases hw4 with rfl|rfl|rfl|rfl
  ·exact GT H ba hq hb hbl hP
  ·exact GS H ht ht2 ba bo hq hb hbl hP
  ·exact GR H ba bo hq hb hP
  ·exact GQ H ba hq hb hbl hP
 exact (i_aa rfl rfl ⟨gy rfl ⟨ba.1,by exact z11 0x111100005f8113c2f8080e112 ba.2 hm.2⟩ hi (ax rfl trivial rfl ⟨JU,gone,JP,J95,q.v,q.p,q.c,J4e,J5a,b,by rw[hp],rfl,⟨hb,hb1⟩,go⟩)⟩)
end
theorem qh:ac 9 613 4 zg:=ar (kFn 68 rfl) qU aJ qv (by
 rintro _ _ P _ ⟨t,size,chain,seq,gone,s,bss,births,rfl,rfl,⟨H,ht⟩,hP⟩
 have l1:J32<=63:=by rw[J0M];omega
 have l2:J3D<=63:=by rw[J0M];omega
 have l3:J1x<=63:=by rw[J0M];omega
 have l4:J2P<=63:=by rw[J0M];omega
 have hm:=JCS
 have lm:(Ju J2n).length=J0i:=J6 _
 have h0:((Ju J2n).length:Int)≠0:=by exact z20 0x1101080e2310a11882 hm.1 lm
 have h1:(Ju J2n).length<=65536:=by exact z20 0x1011100005f80810a3c2f8182 hm.2 lm
 have bw:=bE (aK t) (k:=4) (by decide)
 have ba:=bE (aK J0h) (k:=((Ju J2n).length:Int)) (by exact z20 0x11010e08110a11882 hm.1 lm)
 have bo:=bE (aK J0J) (k:=((Ju J2n).length:Int)) (by exact z20 0x11010e08110a11882 hm.1 lm)
 exact (i_aa h1 rfl ⟨t,rfl,rfl,ht,(ax (by decide) rfl rfl ⟨J0h,rfl,rfl,l1,(i_aa h0 rfl ⟨J0J,rfl,rfl,l2,(i_aa h0 rfl (Ev H l3 l4 bw ⟨ba.1,lm▸ba.2⟩ ⟨bo.1,lm▸bo.2⟩ hP))⟩)⟩)⟩))
theorem PRs.rev {fz:FzP}{ps:List PV}:∀{vs:List Value},PRs fz ps vs->PRs fz ps.reverse vs.reverse:=by
 induction ps with
 |nil=>intro vs h;cases h;exact .nil
 |cons p ps ih=>
  intro vs h
  refine e2_3 J7n λv r er a b=> ?_
  rw[er,J5I,J5I]
  exact (ih b).append (.cons a .nil)
def Fn (eo:EV):VC EV:=λst P=>aj (bF eo st) λps=>Jt<=65536/\P (.loc JK) { st with sl:=J5++[.list ps.reverse] }
section
variable {Γ:Nm}{n:Nat}
set_option tactic.hygienic true in
theorem B0 {o:Expr}{p q q2 pos:Pos}{vo:VC EV}{k:Nat}(ho:Sem Γ n o vo):Sem Γ n (.Subscript o (.Slice none none (some (.UnaryOp .USub (.Constant (.int 1) k p) q)) q2) pos) (λst P=>vo st λa st1=>Fn a st1 P):=by
 intro w A env X C st T vs s h t Q E P H hv hQ
 refine ee (ho C H hv λeo v st1 h1 t1 H1 hv1=>jZ ?_)
 rw[JFW]
 refine af (af ?_)
 rw[JFV,JDK]
 refine aa (py C H1 (P:=λev st'=>ev=.pv (.int 1)/\st'=st1) ⟨rfl,rfl⟩ λev i st' h2 t2 H2 e=>aa (am (ai ?_)))
 refine e0_2 e λer0 er1=> ?_
 clear e
 clear H1
 obtain rfl:=er0
 obtain rfl:=er1
 refine e2_1 JHS λfz ρ' z=> ?_
 refine e1_1 J58 λtk er2=> ?_
 refine J3P▸?_
 refine av (neg_int (s:=At s h2 t2) ?_)
 have H3:=H2.pop
 unfold Fn at hv1
 refine e1_2 (ah hv1) λps hq hv1=> ?_
 refine e0_2 hv1 λhsz hP=> ?_
 clear hv1
 have H4:Rel w Γ X st' (eo::T) (v::vs) (JE4 { cls:=.type "slice",data:=.fields #[.none,.none,.int (-1) t2] }):=H3.keeps λb o e=>JY _ e
 have hS:(JE4 { cls:=.type "slice",data:=.fields #[.none,.none,.int (-1) t2] }).IsSliceOf JAl .none .none (.int (-1) t2):=JCP _ _ _ _
 show ae (model prog0 w) A (J3i o _ v (.ref JAl)) Q E (At s (JE4 { cls:=.type "slice",data:=.fields #[.none,.none,.int (-1) t2] }) (t2+1))
 generalize JE4 { cls:=.type "slice",data:=.fields #[.none,.none,.int (-1) t2] }=h4 at H4 hS
 generalize JAl=sa at hS
 refine J9 H4 λN own ρ m R=> ?_
 refine e0_2 Jg λz zs=> ?_
 refine e3_3 (J2j J1q z hq) λa items nn er3 g1 g2=> ?_
 refine J4X▸?_
 have hL:h4.IsList a items:=(aO _ g1 rfl _ rfl)
 have hle:=J72
 simp only [J0L] at hle
 refine cy (s:=At s h4 (t2+1)) hL.typeIs J2B (av (J9Q (s:=At s h4 (t2+1)) hL hS .none .none (.int (-1) t2) (by decide) ?_ (fit_le (by rw[<- hle];exact hsz)))) rfl
 rw[krv_pick]
 have R':=Jj zs
 exact hQ _ _ _ _ _ (R'.newLst (k:=0) (by simpa using PRs.rev g2)) hP
end
def PE.rev {Γ:Nm}{n:Nat}{o:Expr}{p q q2 pos:Pos}{k:Nat}(a:PE Γ n o):PE Γ n (.Subscript o (.Slice none none (some (.UnaryOp .USub (.Constant (.int 1) k p) q)) q2) pos):=⟨_,Jc,λh=>J5e (B0 (Jd h)),λy y=>rfl⟩
end Internal
end
section
open PySem PySem.W
namespace Internal
def aT (b:List (Int×Rc)):List UInt8:=(J52 λx=>rowB x.1 x.2).flatten
theorem gd (a b:List (Int×Rc)):aT (a++b)=aT a++aT b:=by unfold aT;rw[Ji,J0u]
theorem b6 (q:Int) (r:Rc):aT [(q,r)]=rowB q r:=by unfold aT;simp
def dg (size:Nat) (chain txg:Int) (s:LS) (fill:List (List (Int×Rc))):LS:=fill.foldl (λs b=>JGp size chain txg (aT b)) s
theorem lN (size:Nat) (chain txg:Int) (s:LS) (a b:List (List (Int×Rc))):dg size chain txg s (a++b)=dg size chain txg (dg size chain txg s a) b:=by unfold dg;rw[J7i]
def Pk (size:Nat) (chain txg room:Int) (s:LS) (c:LS×List UInt8) (f:LF):Prop:=
 (J8c=[]/\c=(s,[])/\JEA=0)∨∃ini b,J8c=ini++[b]/\b≠[]/\c=(dg size chain txg s ini,aT b)/\JEA=room - (aT b).length
theorem rP (q:Int) (r:Rc):0<(rowB q r).length:=by rw[bS];unfold J7f;exact z10 0x105890890
theorem sW {b:List (Int×Rc)}(h:b≠[]):0<(aT b).length:=by
 cases b with
 |nil=>exact absurd rfl h
 |cons x r=>
  have:=rP x.1 x.2
  show 0<(((x::r).map λx=>rowB x.1 x.2).flatten).length
  rw[J0t,J3A,JO];exact z20 0x1110908900891 this
theorem Pk.step {size:Nat}{chain txg room:Int}{s:LS}{c:LS×List UInt8}{f:LF}(h:Pk size chain txg room s c f) {p:Rc}(hp:(J2m:Int)<=room):Pk size chain txg room s (bH size chain txg room c (rowB (J3X+1) p)) (JE9 room p):=by
 have hl:((rowB (J3X+1) p).length:Int)=J2m:=by rw[bS]
 have h5:=iF p
 rcases h with⟨h1,rfl,h3⟩|⟨ini,b,h1,h2,rfl,h4⟩
 ·have e1:JE9 room p=⟨J3X+1,[[(J3X+1,p)]],room - J2m⟩:=by unfold J51;rw[JC (by exact z11 0x10110e1108120e0812 h5 h3),h1];rfl
  have e2:bH size chain txg room (s,[]) (rowB (J3X+1) p)=(s,rowB (J3X+1) p):=by
   unfold bH
   rw[JL (by show ¬(room<((0:Nat):Int)+_);omega)];rfl
  rw[e1,e2]
  exact .inr (dL ([]) ([(J3X+1,p)]) rfl (by simp) (by rw[b6];rfl) (by rw[b6,hl]))
 ·by_cases hb:JEA<J2m
  ·have e1:JE9 room p=⟨J3X+1,J8c++[[(J3X+1,p)]],room - J2m⟩:=by unfold J51;rw[JC hb]
   have e2:bH size chain txg room (dg size chain txg s ini,aT b) (rowB (J3X+1) p)=((dg size chain txg s ini).put size chain txg (aT b),[]++rowB (J3X+1) p):=by
    unfold bH
    exact JC (by show room<((aT b).length:Int)+_;exact z32 0x1110101e0e9312e410e3a422e1e23 hl h4 hb)
   rw[e1,e2]
   refine .inr (dL (ini++[b]) ([(J3X+1,p)]) (by rw[h1]) (by simp) ?_ (by rw[b6,hl]))
   rw[lN,b6];rfl
  ·have e1:JE9 room p=⟨J3X+1,ini++[b++[(J3X+1,p)]],JEA - J2m⟩:=by unfold J51;rw[JL hb,h1,dB]
   have e2:bH size chain txg room (dg size chain txg s ini,aT b) (rowB (J3X+1) p)=(dg size chain txg s ini,aT b++rowB (J3X+1) p):=by
    unfold bH
    exact JL (by show ¬(room<((aT b).length:Int)+_);exact z32 0x1101011e0e93132e4130e3a422e1e23 hl h4 hb)
   rw[e1,e2]
   refine .inr (dL ini (b++[(J3X+1,p)]) rfl (by simp) (by rw[gd,b6]) ?_)
   rw[gd,b6,JO]
   show JEA - J2m=_
   exact z32 0x1010111010219e4a0e3a21e4a320e2e22 hl h4
theorem Pk.all {size:Nat}{chain txg room:Int}{s:LS}{ps:List Rc}:∀{c:LS×List UInt8}{f:LF},Pk size chain txg room s c f->(∀p∈ps,(J2m:Int)<=room)->Pk size chain txg room s ((mkRows J3X ps).foldl (bH size chain txg room) c) (J9r (J51 room) f):=by
 induction ps with
 |nil=>exact λh y=>h
 |cons p ps ih=>
  intro c f h hp
  have e:(JE9 room p).seq=J3X+1:=by unfold J51;split<;>rfl
  have:=ih (h.step (hp p JB)) λq hq=>hp q (Jk _ hq)
  rw[e] at this
  exact this
theorem xe {size:Nat}{chain txg room seq:Int}{s:LS}{ps:List Rc}(hp:∀p∈ps,(J2m:Int)<=room):gx size chain txg (pM size chain txg room s (mkRows seq ps))=dg size chain txg s (lcom room seq ps).fill:=by
 have h:=Pk.all (size:=size) (chain:=chain) (txg:=txg) (s:=s) (c:=(s,[])) (f:=⟨seq,[],0⟩) (.inl ⟨rfl,rfl,rfl⟩) hp
 have h:Pk size chain txg room s (pM size chain txg room s (mkRows seq ps)) (lcom room seq ps):=h
 rcases h with⟨h1,h2,_⟩|⟨ini,b,h1,h2,h3,_⟩
 ·rw[h1,h2];rfl
 ·rw[h1,h3,lN]
  have:=sW h2
  show (match aT b with |[]=>_|r=>_)=JEd size chain txg (dg size chain txg s ini) (aT b)
  cases hb:aT b with
  |nil=>rw[hb] at this;exact absurd this (J0V 0)
  |cons x r=>rfl
structure qP (room:Int) (b:List (Int×Rc)):Prop where
 ne:b≠[]
 le:((aT b).length:Int)<=room
theorem Pk.fillOk {size:Nat}{chain txg room:Int}{s:LS}{ps:List Rc}:∀{c:LS×List UInt8}{f:LF},Pk size chain txg room s c f->(∀b∈J8c,qP room b)->(∀p∈ps,(J2m:Int)<=room)->∀b∈(J9r (J51 room) f).fill,qP room b:=by
 induction ps with
 |nil=>intro c f _ h _;exact h
 |cons p ps ih=>
  intro c f hk h hp
  refine ih (hk.step (hp p JB)) (λb hb=> ?_) λq hq=>hp q (Jk _ hq)
  unfold J51 at hb
  split at hb
  ·rcases J08 hb with q|q
   ·exact h b q
   ·rw[JQ q];exact (⟨by simp,by rw[b6,bS];exact (hp p JB)⟩)
  ·rename_i hn
   rcases hk with⟨e1,_,e3⟩|⟨ini,b',e1,e2,_,e4⟩
   ·have:=iF p;omega
   ·have hb:b∈ja J8c (J3X+1,p):=hb
    rw[e1,dB] at hb
    rcases J08 hb with q|q
    ·exact h b (by rw[e1];exact J06 _ q)
    ·rw[JQ q]
     refine⟨by simp,?_⟩
     rw[gd,b6,JO,bS]
     exact z22 0x10112109e00e2a321e3132 hn e4
theorem r9 {room seq:Int}{ps:List Rc}(hp:∀p∈ps,(J2m:Int)<=room):∀b∈(lcom room seq ps).fill,qP room b:=
 Pk.fillOk (size:=0) (chain:=0) (txg:=0) (s:=⟨0,⟨0,0,0,0,0,0⟩,[],[],0,0⟩) (c:=(⟨0,⟨0,0,0,0,0,0⟩,[],[],0,0⟩,[])) (f:=⟨seq,[],0⟩) (.inl ⟨rfl,rfl,rfl⟩) (λy h=>by cases h) hp
def mL (m:Int) (x:Int×Rc):Prop:=x.2.ok/\0<=x.1/\x.1<m/\x.2.sort<256
theorem xu {room:Int}{ps:List Rc}(hp:∀p∈ps,p.ok/\JDq<256):∀{f:LF},0<=J3X->(∀b∈J8c,∀x∈b,mL (J3X+1) x)->∀b∈(J9r (J51 room) f).fill,∀x∈b,mL (J3X+Jt+1) x:=by
 induction ps with
 |nil=>intro f _ h b hb x hx;have:=h b hb x hx;exact (ax this.1 this.2.1 (by have:=this.2.2.1;simp;omega) this.2.2.2)
 |cons p ps ih=>
  intro f h0 h b hb x hx
  have e:(JE9 room p).seq=J3X+1:=by unfold J51;split<;>rfl
  have hnew:mL (J3X+1+1) (J3X+1,p):=(ax ((hp p JB).1) (by show 0<=J3X+1;omega) (by show J3X+1<J3X+1+1;exact z01 0x11818099180910) ((hp p JB).2))
  have up:∀{y},mL (J3X+1) y->mL (J3X+1+1) y:=λq=>(ax q.1 q.2.1 (by have:=q.2.2.1;exact z02 0x111818199011819011 this) q.2.2.2)
  have:=ih (λq hq=>hp q (Jk _ hq)) (f:=JE9 room p) (by rw[e];omega) (λb hb y hy=> ?_) b hb x hx
  ·rw[e] at this
   exact (ax this.1 this.2.1 (by have:=this.2.2.1;rw[J0w];exact z12 0x11181809e29911180e182999111 this) this.2.2.2)
  ·rw[e]
   unfold J51 at hb
   split at hb
   ·rcases J08 hb with q|q
    ·exact up (h b q y hy)
    ·rw[JQ q] at hy
     rw[JQ hy];exact hnew
   ·rename_i hn
    by_cases hf:J8c=[]
    ·have hb:b∈ja J8c (J3X+1,p):=hb
     rw[hf] at hb;cases hb
    ·refine e2_1 (pt hf) λa c ec=> ?_
     have hb:b∈ja J8c (J3X+1,p):=hb
     rw[ec,dB] at hb
     rcases J08 hb with q|q
     ·exact up (h b (by rw[ec];exact J06 _ q) y hy)
     ·rw[JQ q] at hy
      rcases J08 hy with q|q
      ·exact up (h c (by rw[ec];exact J0A _ JB) y q)
      ·rw[JQ q];exact hnew
section
variable {chain number v p c birth:Int}{rows:List UInt8}{size:Nat}
theorem ir (h:20+J0R+16<=size):(bO chain number rows v p c birth size).take (size - 16)=c9 chain number rows v p c birth size:=by
 unfold bO
 rw[<- gJ (chain:=chain) (number:=number) (v:=v) (p:=p) (c:=c) (birth:=birth) h,J9H]
theorem iu (h:20+J0R+16<=size):(bO chain number rows v p c birth size).drop (size - 16)=kM (c9 chain number rows v p c birth size):=by
 unfold bO
 rw[<- gJ (chain:=chain) (number:=number) (v:=v) (p:=p) (c:=c) (birth:=birth) h,JF9]
theorem oP:sub (c9 chain number rows v p c birth size) 0 4=leB 4 chain:=rfl
theorem lA:sub (c9 chain number rows v p c birth size) 4 3=leB 3 number:=rfl
theorem yr:sub (c9 chain number rows v p c birth size) 7 2=leB 2 J0R:=rfl
theorem E8:sub (c9 chain number rows v p c birth size) 9 1=leB 1 v:=rfl
theorem E9:sub (c9 chain number rows v p c birth size) 10 4=leB 4 p:=rfl
theorem Fa:sub (c9 chain number rows v p c birth size) 14 2=leB 2 c:=rfl
theorem wD:sub (c9 chain number rows v p c birth size) 16 4=leB 4 birth:=rfl
theorem yq:sub (c9 chain number rows v p c birth size) 20 J0R=rows:=by
 show (rows++J0E (size - 16 - (20+J0R)) 0).take J0R=rows
 exact J9H
theorem sX (h:20+J0R+16<=size) (hs:size<=1000) (h1:0<=chain/\chain<4294967296) (h2:0<=number/\number<16777216) (h3:0<=v/\v<256) (h4:0<=p/\p<4294967296) (h5:0<=c/\c<65536) (h6:0<=birth/\birth<4294967296):
  da (bO chain number rows v p c birth size) chain number=some (rows,⟨v,p,c,size,birth,chain⟩):=by
 unfold da
 refine (cR h).symm▸?_
 refine (ir h).symm▸?_
 refine (iu h).symm▸?_
 refine (JC rfl).symm▸?_
 refine (oP).symm▸?_
 refine (lA).symm▸?_
 refine (yr).symm▸?_
 refine (E8).symm▸?_
 refine (E9).symm▸?_
 refine (Fa).symm▸?_
 refine (wD).symm▸?_
 refine (bP 4 _ h1.1 h1.2).symm▸?_
 refine (bP 3 _ h2.1 h2.2).symm▸?_
 rw[bP 2 _ (by exact z10 0x10e0800) (by exact z20 0x111100005f80e13e83f8181102f80142f89982 h hs),bP 1 _ h3.1 h3.2,bP 4 _ h4.1 h4.2,bP 2 _ h5.1 h5.2,bP 4 _ h6.1 h6.2,JC ⟨rfl,rfl⟩,JC (by exact z20 0x11242f81ea0e01102f80142f89981 h),J0l,yq]
theorem kh (h:20+J0R+16<=size) (h1:0<=chain/\chain<4294967296) (h2:0<=number/\number<16777216) {chain' number':Int}(hne:chain≠chain'∨number≠number'):
  da (bO chain number rows v p c birth size) chain' number'=none:=by
 unfold da
 refine (cR h).symm▸?_
 refine (ir h).symm▸?_
 refine (iu h).symm▸?_
 refine (JC rfl).symm▸?_
 refine (oP).symm▸?_
 refine (lA).symm▸?_
 refine (bP 4 _ h1.1 h1.2).symm▸?_
 refine (bP 3 _ h2.1 h2.2).symm▸?_
 exact JL (by exact z04 0x1001100010001100101322102433223102351 hne)
theorem Ak (n:Nat):leV (J0E n 0)=0:=by
 induction n with
 |zero=>rfl
 |succ n ih=>
  show ((0:UInt8).toNat:Int)+256*leV (J0E n 0)=0
  rw[ih];rfl
theorem gf {size:Nat}{chain number:Int}(h:1<=chain):da (aQ size) chain number=none:=by
 unfold da
 have e:leV (sub ((aQ size).take ((aQ size).length - 16)) 0 4)=0:=by
  delta sub aQ
  rw[JBq,List.drop_replicate,JBq,Ak]
 split
 ·exact JL (by exact z04 0x1001132210243080211802 h e)
 ·rfl
end
theorem wi {b:List UInt8}{p:Nat}(x:UInt8) (h:p<J2):chg b p x=J9E p x:=by
 unfold chg
 rw[mx (J2y h),show ((p:Int)+1)=((p+1:Nat):Int) by exact z10 0x111809e180e920,Bf (by omega)]
 rw[List.set_eq_take_append_cons_drop,JC h]
 simp
theorem CF {a:List UInt8}:∀{b:List UInt8},J8B=J2->leV a=leV b->a=b:=by
 induction a with
 |nil=>exact λhl y=>(J0x JH6).symm
 |cons x a ih=>
  intro b hl h
  cases b with
  |nil=>cases hl
  |cons y b=>
   have h:(J8H:Int)+256*leV a=(JBT:Int)+256*leV b:=h
   have hx:=x.toNat_lt
   have hy:=y.toNat_lt
   have e1:J8H=JBT/\leV a=leV b:=by omega
   rw[UInt8.toNat_inj.mp e1.1,ih (J3b hl) e1.2]
theorem BR (f g:Nat->Int) (j:Nat):∀m:Nat,j<m->(∀i,i<m->i≠j->f i=g i)->((JZ m).map f).sum - ((JZ m).map g).sum=f j - g j:=by
 have same:∀m:Nat,(∀i,i<m->f i=g i)->((JZ m).map f).sum=((JZ m).map g).sum:=λm h=>by
  congr 1
  exact J0o λi hi=>h i (J1d hi)
 intro m
 induction m with
 |zero=>intro h;omega
 |succ m ih=>
  intro hj h
  refine (J3p).symm▸?_
  rw[Ji,Ji,J8r,J8r]
  simp only [J0t,JGU,J5S,List.sum_nil]
  by_cases e:j=m
  ·clear hj ih
   subst e
   have:=same j λi hi=>h i (by exact z20 0x111819091091 hi) (by exact z20 0x10110a31091 hi)
   exact z04 0x10111031a083929081909a22021 this
  ·have:=ih (by exact z20 0x1111010910a31819092 hj e) λi hi hn=>h i (by exact z20 0x111819091091 hi) hn
   have:=h m (by exact z10 0x11809090) (λz=>e z.symm)
   omega
theorem oM {b:List UInt8}{m:Nat}(h:J2=4*m):wordsV b=(JZ m).map λi=>leV (sub b (4*i) 4):=by
 have e:rngN 0 J2 4=m:=by
  delta rngN J0X
  refine JFt (JD _ (JC (by decide))) ?_
  split
  ·exact z23 0x4001010401044401010401040040101040140401010401002a2718081eaa443d18392204b1a4 h rfl fZ fT
  ·omega
 refine (e)▸?_
 refine J0o λi hi=> ?_
 have:=J1d hi
 rw[show (0+(i:Int)*4)=((4*i:Nat):Int) by exact z10 0x1104be40ec08920,show (4:Int)=((4:Nat):Int) from rfl,DA (by exact z40 0x14041014804b9830923a24b1a3 h e this)];rfl
theorem tI {b:List UInt8}{p i:Nat}{x:UInt8}(h:i≠p / 4):sub (J9E p x) (4*i) 4=sub b (4*i) 4:=by
 unfold sub
 apply J3B
 intro k
 rw[J1i,J1i]
 split
 ·rw[J26,J26,J2E (by omega)]
 ·rfl
theorem tJ {b:List UInt8}{p:Nat}{x:UInt8}:(sub (J9E p x) (4*(p / 4)) 4)[p % 4]? =(J9E p x)[p]?/\(sub b (4*(p / 4)) 4)[p % 4]? =b[p]? :=by
 unfold sub
 rw[J1i,J1i,JC (by exact z30 0x110048092401e1 fN),JC (by exact z30 0x110048092401e1 fN),J26,J26,show 4*(p / 4)+p % 4=p by exact z30 0x100110102104b9a2410e1 fN]
 exact⟨rfl,rfl⟩
theorem wy {b:List UInt8}{m p:Nat}{x:UInt8}(h:J2=4*m) (hp:p<J2) (hx:J9b p 0≠x):jy (wordsV (J9E p x)).sum≠jy (wordsV b).sum:=by
 have hl:(J9E p x).length=4*m:=by rw[J4o];exact h
 have lens:∀c:List UInt8,c.length=4*m->(sub c (4*(p / 4)) 4).length=4:=λc hc=>by
  unfold sub;rw[J0k,J3R];omega
 rw[pQ (po (cS _)),pQ (po (cS _)),oM hl,oM h]
 have hd:=BR (λi=>leV (sub (J9E p x) (4*i) 4)) (λi=>leV (sub b (4*i) 4)) (p / 4) m (by exact z50 0x40011011093440e23914b2a3 h hp fN) λi y hn=>by rw[tI hn]
 have l1:=Al (sub (J9E p x) (4*(p / 4)) 4)
 have l2:=Al (sub b (4*(p / 4)) 4)
 have n1:=fe (sub (J9E p x) (4*(p / 4)) 4)
 have n2:=fe (sub b (4*(p / 4)) 4)
 rw[lens _ hl] at l1
 rw[lens _ h] at l2
 have hne:leV (sub (J9E p x) (4*(p / 4)) 4)≠leV (sub b (4*(p / 4)) 4):=λz=>by
  have e:=CF (by rw[lens _ hl,lens _ h]) z
  obtain⟨s1,s2⟩:=tJ (b:=b) (p:=p) (x:=x)
  rw[e,s2,J1Z hp,Jy hp] at s1
  apply hx
  rw[J02,Jy hp]
  exact JT s1
 omega
theorem yp {b:List UInt8}{m p:Nat}{x:UInt8}(h:J2=4*m) (hp:p<J2) (hx:J9b p 0≠x):kM (J9E p x)≠kM b:=λz=>by
 have e1:∀c:List UInt8,sub (kM c) 0 4=leB 4 (jy (wordsV c).sum):=λc=>rfl
 have ok:∀c:List UInt8,0<=jy (wordsV c).sum/\jy (wordsV c).sum<4294967296:=λc=>AM c _ JB
 have e2:=JD (λl=>leV (sub l 0 4)) z
 simp only [e1] at e2
 rw[bP 4 _ (ok _).1 (ok _).2,bP 4 _ (ok _).1 (ok _).2] at e2
 exact wy h hp hx e2
theorem xQ {b:List UInt8}{m p:Nat}{x:UInt8}{chain number:Int}(hl:J2=4*m+16) (hs:kM (J4x (J2 - 16))=J6S (J2 - 16)) (hp:p<J2) (hx:J9b p 0≠x):da (chg b p x) chain number=none:=by
 rw[wi x hp]
 unfold da
 refine (J4o).symm▸?_
 rw[JL]
 intro z
 by_cases hq:p<J2 - 16
 ·rw[JFl,List.drop_set_of_lt hq,<- hs] at z
  refine yp (m:=m) (by rw[J0k];exact z40 0x100001101010000100000100101010110100100010001000100100101011010101014b0a230c102f823b102f814b92a3 hl fS fM) (by rw[J0k];exact z40 0x101001101010109231c3092093 hp hq fM) ?_ z
  rw[J02,J1i,JC hq]
  exact hx
 ·have e1:(J9E p x).take (J2 - 16)=J4x (J2 - 16):=by
   refine (JFl).symm▸?_
   exact List.set_eq_of_length_le (by rw[J0k];exact z40 0x1101110011108320c21932 hq fM)
  rw[e1,hs] at z
  have z2:=JD (λl=>l[p - (J2 - 16)]?) z
  simp only [J26] at z2
  rw[show J2 - 16+(p - (J2 - 16))=p by exact z30 0x100101001101011002109a021b02932 hq fS,J1Z hp,Jy hp] at z2
  apply hx
  rw[J02,Jy hp]
  exact JT z2
theorem qI {chain number v p c birth:Int}{rows:List UInt8}{size:Nat}(h:20+J0R+16<=size):kM ((bO chain number rows v p c birth size).take ((bO chain number rows v p c birth size).length - 16))=(bO chain number rows v p c birth size).drop ((bO chain number rows v p c birth size).length - 16):=by
 rw[cR h,ir h,iu h]
theorem qJ {a b:List Int}(h:a≠b):bY a b=false:=by
 cases q:bY a b with
 |false=>rfl
 |true=>exact absurd (JFd q) h
theorem ri {k:List Int}{v:PV}{m r:be}:k∉m.map (·.1)->aY k v (m++r)=m++aY k v r:=by
 induction m with
 |nil=>exact λy=>rfl
 |cons x m ih=>
  intro h
  show cond (bY x.1 k) _ _=_
  rw[qJ λz:x.1=k=>h (z▸JB)]
  exact JD (x::·) (ih λz=>h (Jk _ z))
theorem wI {k:List Int}{v q:PV}{r:be}:aY k v ((k,q)::r)=(k,v)::r:=by rw[e7,dT];rfl
theorem yy {k:List Int}{v:PV}{m:be}(h:k∉m.map (·.1)):aY k v m=m++[(k,v)]:=by
 have:=ri (v:=v) (r:=[]) h
 rw[J0e] at this
 exact this
theorem cF {k j:List Int}{v:PV}(h:j≠k) {m:be}:aE j (aY k v m)=aE j m:=by
 induction m with
 |nil=>show cond (bY k j) _ _=_;rw[qJ (J2k h)];rfl
 |cons x m ih=>
  obtain⟨i,q⟩:=x
  rw[e7]
  cases hb:bY i k with
  |true=>
   have hj:bY i j=false:=qJ λz=>h (z.symm.trans (JFd hb))
   show cond (bY i j) _ _=cond (bY i j) _ _
   rw[hj]
   rfl
  |false=>
   show cond (bY i j) _ _=cond (bY i j) _ _
   cases bY i j with
   |true=>rfl
   |false=>exact ih
theorem o4 {α:Type}{key:α->List Int}{val:α->PV}{l:List α}{r:be}{x:α}:x∈l->(∀y∈l,key y=key x->y=x)->aE (key x) (JE (λy=>(key y,val y))++r)=some (val x):=by
 induction l with
 |nil=>exact λhx=>nomatch hx
 |cons y l ih=>
  intro hx hu
  show cond (bY (key y) (key x)) _ _=_
  cases hb:bY (key y) (key x) with
  |true=>rw[hu y JB (JFd hb)];rfl
  |false=>
   refine ih ?_ λz hz=>hu z (Jk _ hz)
   clear hu
   rcases Jf hx with rfl|h
   ·rw[dT] at hb;cases hb
   ·exact h
def aP (size:Nat) (chain p0:Int) (births:List Int) (j:Nat):Pt:=⟨0,p0+j*aq size,aq size,size,J4i j 0,chain⟩
def fJ (size:Nat) (chain p0:Int) (bs:List (List (Int×Rc))) (births:List Int) (j:Nat):List UInt8:=
 bO chain j (aT (J8f j [])) 0 (p0+((j+1:Nat):Int)*aq size) (aq size) (J4i (j+1) 0) size
def cN (size:Nat) (chain p0:Int) (bs:List (List (Int×Rc))) (births:List Int):be:=
 (JZ J8).map (λj=>((aP size chain p0 births j).k,J37 (fJ size chain p0 bs births j)))++[((aP size chain p0 births J8).k,.bytes (aQ size))]
def bp (size:Nat) (chain p0:Int) (bs:List (List (Int×Rc))) (births:List Int) (wr:Int):LS:=
 ⟨J8,aP size chain p0 births J8,(JZ J8).map (aP size chain p0 births),cN size chain p0 bs births,p0+((J8+1:Nat):Int)*aq size,wr⟩
theorem CX {size:Nat}(h:1<=size):1<=aq size:=by
 unfold aq;rw[J0b _ (by decide)];exact z12 0x102f10101118018102f80e9a102f21d01882 h fZ
section
variable {size:Nat}{chain p0:Int}{bs:List (List (Int×Rc))}{births:List Int}
theorem dK (hs:1<=size) {b1 b2:List Int}{i j:Nat}(h:(aP size chain p0 b1 i).k=(aP size chain p0 b2 j).k):i=j:=by
 have hc:=CX hs
 have h1:p0+(i:Int)*aq size=p0+(j:Int)*aq size:=(J7G (J7G h).2).1
 have h2:((i:Int) - j)*aq size=0:=by rw[Int.sub_mul];exact z03 0x1011100810a212902921 h1
 rcases Int.mul_eq_zero.mp h2 with z|z<;>omega
theorem Aw:(cN size chain p0 bs births).map (·.1)=((JZ (J8+1)).map λj:Nat=>(p0+j*aq size,aq size)).map λp:Int×Int=>[0,p.1,p.2]:=by
 unfold cN
 rw[Ji,Js,Js,J3p,Ji]
 rfl
theorem lW (hs:1<=size) {b2:List Int}{i n:Nat}{val:Nat->PV}(h:n<=i):(aP size chain p0 b2 i).k∉((JZ n).map λj=>((aP size chain p0 births j).k,val j)).map (·.1):=by
 rw[Js]
 intro z
 refine e1_2 (Ja z) λj hj e=> ?_
 have:=dK hs e
 have:=J1d hj
 omega
theorem Aa (hs:1<=size) (hb:J3n=J8+1) (txg wr:Int) (b:List (Int×Rc)):
  (bp size chain p0 bs births wr).put size chain txg (aT b)=bp size chain p0 (bs++[b]) (births++[txg]) (wr+1+1):=by
 have gl:∀j,j<=J8->(births++[txg]).getD j 0=J4i j 0:=λj hj=>by
  rw[J02,J02,J0W (by exact z30 0x111010920818291a2 hb hj)]
 have gn:(births++[txg]).getD (J8+1) 0=txg:=by
  rw[J02,J0D (by exact z20 0x10118190818190a1 hb),hb,JAu];rfl
 have bl:∀j,j<J8->(bs++[b]).getD j []=J8f j []:=λj hj=>by
  rw[J02,J02,J0W hj]
 have bn:(bs++[b]).getD J8 []=b:=by
  rw[J02,J0D (Jb _),JAu];rfl
 have pe:∀j,j<=J8->aP size chain p0 (births++[txg]) j=aP size chain p0 births j:=λj hj=>by unfold aP;rw[gl j hj]
 have an:aP size chain p0 (births++[txg]) (J8+1)=⟨0,p0+((J8+1:Nat):Int)*aq size,aq size,size,txg,chain⟩:=by unfold aP;rw[gn]
 have kn:[(0:Int),p0+((J8+1:Nat):Int)*aq size,aq size]=(aP size chain p0 (births++[txg]) (J8+1)).k:=rfl
 delta JEd bp
 refine (JO).symm▸?_
 refine (J4K).symm▸?_
 refine (J3p).symm▸?_
 refine (Ji).symm▸?_
 congr 1
 ·exact an.symm
 ·rw[J2s,pe _ (Jb _)]
  congr 1
  exact J0o λj hj=>(pe j (J2y (J1d hj))).symm
 ·show aY (aP size chain p0 births J8).k _ (aY _ _ (cN size chain p0 bs births))=_
  have e1:aY [(0:Int),p0+((J8+1:Nat):Int)*aq size,aq size] (J37 (aQ size)) (cN size chain p0 bs births)=cN size chain p0 bs births++[((aP size chain p0 (births++[txg]) (J8+1)).k,J37 (aQ size))]:=by
   rw[kn]
   refine yy ?_
   refine (Ji).symm▸?_
   intro z
   rcases J08 z with z|z
   ·exact lW hs (J4n _) z
   ·have:=dK hs (JQ z);exact z10 0x1601809a1 this
  refine JFt (JD _ (e1)) ?_
  unfold cN
  rw[J0U,ri (lW hs (Jb _)),JO,J4K,J3p,Ji,J0U]
  congr 1
  ·refine J0o λj hj=> ?_
   have hj:=J1d hj
   rw[pe j (J2y hj)]
   unfold fJ
   rw[bl j hj,gl (j+1) hj]
  ·show aY _ _ ((_,_)::[(_,_)])=_
   rw[wI,J2s]
   unfold fJ
   refine (bn).symm▸?_
   refine (gn).symm▸?_
   rfl
 ·show p0+((J8+1:Nat):Int)*aq size+aq size=p0+((J8+1+1:Nat):Int)*aq size
  rw[show ((J8+1+1:Nat):Int)=((J8+1:Nat):Int)+1 from rfl,J8v,J5V];exact z03 0x11219092109920
theorem rW (hs:1<=size) (txg:Int) (fill:List (List (Int×Rc))):∀(bs:List (List (Int×Rc))) (births:List Int) (wr:Int),J3n=J8+1->
  ∃wr',dg size chain txg (bp size chain p0 bs births wr) fill=bp size chain p0 (bs++fill) (births++J0E fill.length txg) wr':=by
 induction fill with
 |nil=>exact λbs births wr y=>⟨wr,by rw[J0e,show births++J0E ([]:List (List (Int×Rc))).length txg=births from J0e _];rfl⟩
 |cons b fill ih=>
  intro bs births wr hb
  obtain⟨wr',h⟩:=ih (bs++[b]) (births++[txg]) (wr+1+1) (by simp [hb])
  refine⟨wr',?_⟩
  show dg size chain txg ((bp size chain p0 bs births wr).put size chain txg (aT b)) fill=_
  rw[Aa hs hb,h,J0U,J0U]
  rfl
theorem rX (txg wr:Int):bp size chain p0 [] [txg] wr=⟨0,⟨0,p0,aq size,size,txg,chain⟩,[],[([0,p0,aq size],.bytes (aQ size))],p0+aq size,wr⟩:=by
 unfold bp cN aP Pt.k
 simp
theorem wh (ptr:Nat->Pt) (val:Nat->PV):∀l:List Nat,dm (JE ptr) (JE λj=>((ptr j).k,val j))=[]
 |[]=>rfl
 |j::l=>by
  show dm (JE ptr) (gM (ptr j).k (((ptr j).k,val j)::JE λj=>((ptr j).k,val j)))=[]
  rw[qo,dT]
  exact wh ptr val l
theorem sS (ptr:Nat->Pt) (val:Nat->PV):∀l:List Nat,ez (JE ptr) (JE λj=>((ptr j).k,val j))
 |[]=>trivial
 |j::l=>by
  refine⟨⟨val j,?_⟩,?_⟩
  ·show aE _ ((_,_)::_)=_
   rw[dO,dT];rfl
  ·show ez (JE ptr) (gM (ptr j).k (((ptr j).k,val j)::JE λj=>((ptr j).k,val j)))
   rw[qo,dT]
   exact sS ptr val l
theorem eP:cN size chain p0 bs births=(JZ (J8+1)).map λj=>((aP size chain p0 births j).k,if j<J8 then J37 (fJ size chain p0 bs births j) else .bytes (aQ size)):=by
 unfold cN
 rw[J3p,Ji]
 congr 1
 ·refine J0o λj hj=> ?_
  rw[JC (J1d hj)]
 ·rw[J2s,JL (J0V _)]
theorem rY:(JZ J8).map (aP size chain p0 births)++[aP size chain p0 births J8]=(JZ (J8+1)).map (aP size chain p0 births):=by rw[J3p,Ji];rfl
theorem Ab:dm ((JZ J8).map (aP size chain p0 births)++[aP size chain p0 births J8]) (cN size chain p0 bs births)=[]:=by rw[rY,eP];exact wh _ _ _
theorem xo:ez ((JZ J8).map (aP size chain p0 births)++[aP size chain p0 births J8]) (cN size chain p0 bs births):=by rw[rY,eP];exact sS _ _ _
theorem dy (hs:1<=size) {j:Nat}(hj:j<J8):aE (aP size chain p0 births j).k (cN size chain p0 bs births)=some (.bytes (fJ size chain p0 bs births j)):=
 o4 (key:=λj=>(aP size chain p0 births j).k) (val:=λj=>J37 (fJ size chain p0 bs births j)) (J50 hj) λy z e=>dK hs e
theorem ma (hs:1<=size):aE (aP size chain p0 births J8).k (cN size chain p0 bs births)=some (.bytes (aQ size)):=by
 rw[eP]
 have:=o4 (key:=λj=>(aP size chain p0 births j).k) (val:=λj=>if j<J8 then J37 (fJ size chain p0 bs births j) else .bytes (aQ size)) (l:=JZ (J8+1)) (r:=[]) (x:=J8) (J50 (J1n _)) λy z e=>dK hs e
 rw[J0e] at this
 rw[this,JL (J0V _)]
end
structure WOk (size:Nat) (chain p0:Int) (bs:List (List (Int×Rc))) (births:List Int):Prop where
 sz:64<=size/\size<=112
 four:∃m,size=4*m
 ch:1<=chain/\chain<800000
 p:0<=p0/\p0<10000
 bi:J3n=J8+1
 bb:∀b∈births,0<=b/\b<1000000
 few:J8<=30
 fo:∀b∈bs,qP ((size:Int) - 36) b/\∀x∈b,mL 1000000 x
def bK (bs:List (List (Int×Rc))):List (List PV):=bs.map λb=>J52 cL
theorem zj {b:List (Int×Rc)}:(∀x∈b,mL 1000000 x)->cP (aT b) b:=by
 induction b with
 |nil=>exact λy=>.nil
 |cons x b ih=>
  intro h
  have h1:=h x JB
  exact .cons (ax h1.1 h1.2.1 (by have:=h1.2.2.1;exact z01 0x111000000009f801f42405f8011 this) h1.2.2.2) (ih λx hx=>h x (Jk _ hx))
theorem CT (n:Nat) (f:Fld):uO (n+1) f.pv=true:=by cases f<;>rfl
theorem Bb (n:Nat) (l:List Fld):datNs (n+1) (JE J4V)=true:=by
 induction l with
 |nil=>rfl
 |cons f l ih=>exact J3f ⟨CT ..,ih⟩
theorem CS (x:Int×Rc):uO 8 (cL x)=true:=by
 show datNs 7 [.int x.1,.tup (.str x.2.word::x.2.flds.map J4V)]=true
 show (true&&(datNs 6 (.str x.2.word::x.2.flds.map J4V)&&true))=true
 show (true&&((true&&datNs 6 (x.2.flds.map J4V))&&true))=true
 rw[Bb];rfl
theorem sB (l:List (Int×Rc)):datNs 8 (JE cL)=true:=by
 induction l with
 |nil=>rfl
 |cons x l ih=>exact J3f ⟨CS ..,ih⟩
theorem eS (bs:List (List (Int×Rc))):(bK bs).flatten=bs.flatten.map cL:=by unfold bK;rw[List.map_flatten]
theorem mE (bs:List (List (Int×Rc))) (i:Nat):(bK bs).take i=bK (JA0 i):=by unfold bK;rw[JA8]
theorem CO {α:Type}{c:Nat}{l:List (List α)}:(∀b∈l,J2<=c)->JDH<=c*JV:=by
 induction l with
 |nil=>exact λy=>J1m _
 |cons b l ih=>
  intro h
  rw[J3A,JO,J0w,JGP,J4I]
  exact J6W (ih λc hc=>h c (Jk _ hc)) (h b JB)
theorem Bo (b:List (Int×Rc)):J2<=(aT b).length:=by
 induction b with
 |nil=>exact J1m _
 |cons x b ih=>
  show J2+1<=(rowB x.1 x.2++aT b).length
  rw[JO,J4I]
  exact J6W (rP x.1 x.2) ih
section
variable {size:Nat}{chain p0:Int}{bs:List (List (Int×Rc))}{births:List Int}
theorem WOk.blen (W:WOk size chain p0 bs births) {j:Nat}(hj:j<J8):20+(aT (J8f j [])).length+16<=size:=by
 have hm:J8f j []∈bs:=by rw[J02,Jy hj];exact J5g hj
 have:=(W.fo _ hm).1.le
 have:=JHK
 omega
theorem qB (W:WOk size chain p0 bs births):1<=aq size/\aq size<=8:=by
 have:=JHK
 unfold aq;rw[J0b _ (by decide)];exact z12 0x102f010110102f10100188101180418102f80e9a102f21d702f8080402f883 this.1 this.2 fZ
theorem WOk.pos (W:WOk size chain p0 bs births) {j:Nat}(hj:j<=J8+1):0<=p0+(j:Int)*aq size/\p0+(j:Int)*aq size<20000:=by
 have hc:=qB W
 have hp:=W.p
 have hf:=JER
 have h1:(0:Int)<=(j:Int)*aq size:=J1C (by omega) (by omega)
 have h2:(j:Int)*aq size<=31*8:=J53 (by exact z20 0x1111f2f80e01e2f8181819082 hj hf) (by omega) (by omega) (by omega)
 exact z02 0x11010101014e204f810911090804881f2fb10108027104f80100804 hp.1 hp.2 h1 h2
theorem WOk.birth (W:WOk size chain p0 bs births) (j:Nat):0<=J4i j 0/\J4i j 0<1000000:=by
 rw[J02]
 cases h:births[j]? with
 |none=>exact⟨J4s _,by decide⟩
 |some b=>exact W.bb b (J01 h)
theorem C5 (W:WOk size chain p0 bs births) {j:Nat}(hj:j<J8):da (fJ size chain p0 bs births j) chain j=some (aT (J8f j []),aP size chain p0 births (j+1)):=by
 have hp:=W.pos (j:=j+1) (by lia)
 have hc:=qB W
 have hb:=W.birth (j+1)
 have hch:=W.ch
 have hf:=JER
 have hs:=JHK
 exact sX (JGL hj) (by lia) (by lia) (by lia) (by decide) (by lia) (by lia) (by lia)
theorem lh (W:WOk size chain p0 bs births) {j:Nat}(hj:j<J8):(fJ size chain p0 bs births j).length=size:=cR (JGL hj)
def eF (size:Nat) (chain p0:Int) (bs:List (List (Int×Rc))) (births:List Int) (k n:Nat):List (Pt×List UInt8):=(J6n k n).map λj=>(aP size chain p0 births j,aT (J8f j []))
theorem oV (W:WOk size chain p0 bs births) {D:be}{X:List UInt8}{i:Nat}(hi:i<=J8) (hD:∀j,j<i->aE (aP size chain p0 births j).k D=some (.bytes (fJ size chain p0 bs births j))) (hX:aE (aP size chain p0 births i).k D=some (.bytes X)) (hl:JFh=size) (hn:da X chain i=none) (n:Nat):
  ∀k:Nat,k+n=i->ew D chain k (aP size chain p0 births k) (eF size chain p0 bs births k n):=by
 have sz:=JHK
 induction n with
 |zero=>
  intro k h
  clear hD hi
  obtain rfl:k=i:=h
  exact .stop (b:=X) hX (by rw[hl];rfl) (by exact z20 0x11001101103e83f8080242f884702f8181402f8810a3 hl sz.1 sz.2) hn
 |succ n ih=>
  intro k h
  have hk:k<i:=by exact z30 0x1011091182909a1 h
  have hb:k<J8:=J0d hk hi
  have hlen:=lh W hb
  exact .step (hD k hk) (by rw[hlen];rfl) (by exact z20 0x10110110013e83f8080242f88410a702f8181402f883 sz.1 sz.2 hlen) (C5 W hb) (ih (k+1) ((J2O k n).trans h))
theorem rM (W:WOk size chain p0 bs births) {i:Nat}(hi:i<=J8):jd (eF size chain p0 bs births 0 i) (JA0 i) where
 len:=by unfold eF;rw[J6,J3r,J0k];exact z30 0x1101010101100101010010a210c2182 hi fM
 at_:=λk x r h1 h2=>by
  unfold eF at h1
  rw[JR] at h1
  refine e1_2 (Jw h1) λj hj er0=> ?_
  refine Jm▸?_
  have hlt:=(J04 hj).1
  replace hlt:=(J3r)▸hlt
  replace hj:=(JBQ (by omega))▸hj
  have hj:0+1*k=j:=JT hj
  clear er0
  obtain rfl:k=j:=by exact z20 0x10111010a101b089a1 hj
  rw[J1i,JC hlt] at h2
  have hb:J8f k []=r:=by rw[J02,h2];rfl
  have hm:=W.fo r (J01 h2)
  have:=hm.1.le
  have:=JHK
  refine (hb).symm▸?_
  exact⟨zj hm.2,by show (aT r).length<=1000;omega⟩
theorem WOk.flat (W:WOk size chain p0 bs births) (i:Nat):(JA0 i).flatten.length<=60000:=by
 have h:=CO (l:=JA0 i) (c:=112) λb hb=>by
  have:=Bo b
  have:=(W.fo b (J6M hb)).1.le
  have:=JHK
  omega
 have h2:(JA0 i).length<=J8:=by rw[J0k];exact J80 _ _
 have:=JER
 exact z30 0x1702f702f1ea604f8081e2f8282181702fb083 h h2 this
theorem Fi (W:WOk size chain p0 bs births) {D:be}{X:List UInt8}{i:Nat}(hi:i<=J8) (hD:∀j,j<i->aE (aP size chain p0 births j).k D=some (.bytes (fJ size chain p0 bs births j))) (hX:aE (aP size chain p0 births i).k D=some (.bytes X)) (hl:JFh=size) (hn:da X chain i=none):
  mM D (aP size chain p0 births 0) ((bK bs).take i):=by
 refine⟨eF size chain p0 bs births 0 i,JA0 i,oV W hi hD hX hl hn i 0 (J4z i),?_,rM W hi,?_,?_,?_⟩
 ·unfold eF;rw[J6,J3r];have:=JER;exact z20 0x111c82f8081e2f8181082 hi this
 ·rw[mE,eS]
 ·rw[mE,eS];exact sB _
 ·rw[mE,eS,J6];exact W.flat i
theorem jx {wr:Int}:(bp size chain p0 bs births wr).head=aP size chain p0 births 0:=by
 unfold LS.head bp
 show ((JZ J8).map (aP size chain p0 births)).headD (aP size chain p0 births J8)=_
 cases h:J8 with
 |zero=>rfl
 |succ n=>rw[List.range_eq_range',List.range'_succ];rfl
end
section
variable {size:Nat}{chain p0:Int}{bs:List (List (Int×Rc))}{births:List Int}
def pj (size:Nat) (p0:Int) (n:Nat):List (Int×Int):=(JZ (n+1)).map λj:Nat=>(p0+j*aq size,aq size)
theorem wB (W:WOk size chain p0 bs births) (n:Nat):jQ (pj size p0 n):=by
 have hc:=qB W
 unfold jQ pj
 rw[List.pairwise_map]
 refine List.Pairwise.imp ?_ List.pairwise_lt_range
 intro i j h
 show p0+(i:Int)*aq size<p0+(j:Int)*aq size
 have:(i:Int)*aq size<(j:Int)*aq size:=Int.mul_lt_mul_of_pos_right (by exact z20 0x111e0e11091 h) (by omega)
 exact z03 0x1120910912111 this
theorem rQ (W:WOk size chain p0 bs births) (wr:Int):wo (bp size chain p0 bs births wr) (bK bs) (eF size chain p0 bs births 0 J8) bs (pj size p0 J8):=by
 have hf:=JER
 have hs:1<=size:=by have:=JHK;omega
 have hfl:=W.flat J8
 rw[J0a] at hfl
 refine⟨?_,?_,?_,?_,?_,?_,?_,?_,Aw,wB W _,?_,?_⟩
 ·show ((JZ J8).map _).length<=1000
  rw[J6,J0I];omega
 ·refine (jx).symm▸?_
  exact oV W (Jb _) (λj hj=>dy hs hj) (ma hs) (by unfold aQ;simp) (gf W.ch.1) _ _ (J4z _)
 ·unfold eF;rw[J6,J3r];omega
 ·have:=rM W (Jb J8)
  rw[J0a] at this
  exact this
 ·rw[eS]
 ·rw[eS];exact sB _
 ·unfold bK;rw[J6];omega
 ·rw[eS,J6];exact hfl
 ·unfold pj bK;simp
 ·unfold pj;simp;exact z10 0x11402f8180991e2f8081 hf
theorem sY (n:Nat) (h:n<=J3n):(J6n 0 n).map (λj=>J4i j 0)=J6j n:=by
 apply J3B
 intro k
 rw[JR,J1i]
 by_cases hk:k<n
 ·rw[JBQ hk,JC hk]
  show some (J4i (0+1*k) 0)=_
  rw[J02,show 0+1*k=k by exact z10 0x11001b089a0,Jy (by exact z30 0x1111092091282 h hk)];rfl
 ·rw[JL hk,J0H (by rw[J3r];exact z20 0x1110801931 hk)];rfl
theorem EM (W:WOk size chain p0 bs births) (txg wr:Int):DF (bp size chain p0 bs births wr) txg (bK bs).length births (eF size chain p0 bs births 0 J8) (pj size p0 J8):=by
 have R:=rQ W wr
 have hb:=W.bi
 have hf:=JER
 have hl:(bK bs).length=J8:=by unfold bK;rw[J6]
 have hfst:(eF size chain p0 bs births 0 J8).map (·.1)=(J6n 0 J8).map (aP size chain p0 births):=by unfold eF;rw[Js];rfl
 refine⟨R.wl,R.rd,R.ll,by rw[hl];exact z20 0x110110103e83f81810841e2f80818091a2 hb hf,?_,R.keys,R.ris,?_,R.t64,?_⟩
 ·unfold behind
  rw[hfst,hl,<- sY J8 (by exact z20 0x11010818091a1 hb),JEc,Js,JEc]
  rfl
 ·unfold pj;simp
 ·intro q hq
  unfold behind at hq
  rw[hfst] at hq
  refine e1_2 (Ja (J25 hq).1) λj hj er0=> ?_
  refine Jm▸?_
  have:j<J8:=by
   have:=List.mem_range'.mp hj
   omega
  exact⟨rfl,J1o ⟨j,J50 (by exact z20 0x111819091091 this),rfl⟩⟩
theorem q0 {wr:Int}{i:Nat}{q:Pt}(h:(bp size chain p0 bs births wr).ws[i]? =some q):i<J8/\q=aP size chain p0 births i:=by
 have h:((JZ J8).map (aP size chain p0 births))[i]? =some q:=h
 rw[JR] at h
 refine e1_2 (Jw h) λj hj er0=> ?_
 clear h
 obtain rfl:=er0
 have hlt:=(J04 hj).1
 rw[J0I] at hlt
 rw[J4q hlt] at hj
 rw[JT hj] at hlt ⊢
 exact⟨hlt,rfl⟩
theorem k7 (W:WOk size chain p0 bs births) {B:be}(hB:∀j,j<J8->aE (aP size chain p0 births j).k B=some (.bytes (fJ size chain p0 bs births j))) {X:List UInt8}{i:Nat}(hi:i<J8) (hl:JFh=size) (hn:da X chain i=none) {wr:Int}:
  mM (aY (aP size chain p0 births i).k (.bytes X) B) (bp size chain p0 bs births wr).head ((bK bs).take i):=by
 have hs:1<=size:=by have:=JHK;omega
 refine (jx).symm▸?_
 refine Fi W (J2y hi) (λj hj=> ?_) (gF _ _ _) hl hn
 refine (cF λz=>by have:=dK hs z;exact z20 0x101610a1092 hj this).trans ?_
 exact hB j (by exact z30 0x1111092091292 hi hj)
theorem Ga (W:WOk size chain p0 bs births) (hne:bs≠[]) (wr:Int):vG size chain (bp size chain p0 bs births wr) (bK bs):=by
 have hl:(bK bs).length=J8:=by unfold bK;rw[J6]
 have hsz:=JHK
 have hs:1<=size:=by exact z10 0x1101880402f881 hsz.1
 have hf:=JER
 have hch:=W.ch
 have hpos:1<=J8:=by cases bs with |nil=>exact absurd rfl hne|cons _ _=>exact JGO _
 have hnx:=W.pos (j:=J8+1) (Jb _)
 have own:∀{i q} {b:List UInt8},(bp size chain p0 bs births wr).ws[i]? =some q->aE [q.v,q.p,q.c] (bp size chain p0 bs births wr).blocks=some (.bytes b)->i<J8/\q=aP size chain p0 births i/\b=fJ size chain p0 bs births i:=λ{i q b} h hb=>by
  refine e0_2 (q0 h) λh1 er0=> ?_
  obtain rfl:=er0
  have h2:aE (aP size chain p0 births i).k (cN size chain p0 bs births)=some (.bytes b):=hb
  replace h2:=(dy hs h1)▸h2
  cases h2
  exact (i_aa h1 rfl rfl)
 refine⟨by exact z10 0x1101013e83f8080402f884702f8080402f882 hsz.1 hsz.2,by exact z01 0x110101dbba05f80100804c35005f80101802 hch.1 hch.2,by exact z20 0x10101110103c2f8080188411881e2f81810a3 hl hf hpos,?_,?_,⟨hnx.1,?_⟩,?_,?_,?_,?_,?_⟩
 ·rw[hl];show ((JZ J8).map _).length=_;rw[J6,J0I]
 ·show (cN size chain p0 bs births).length<=1000
  rw[eP,J6,J0I];exact z10 0x113e83f8180981e2f8081 hf
 ·show p0+((J8+1:Nat):Int)*aq size<50000;exact z02 0x11c3504f810914e204f810911 hnx.2
 ·intro q hq
  refine e1_1 (J15 hq) λi hi=> ?_
  refine e0_2 (q0 hi) λh1 er1=> ?_
  refine J0y▸?_
  exact (v4 rfl _ (dy hs h1) (lh W h1))
 ·intro i q h
  refine e0_2 (q0 h) λh1 er2=> ?_
  obtain rfl:=er2
  exact k7 W (λj hj=>dy hs hj) h1 (by unfold aQ;simp) (gf W.ch.1)
 ·intro i q b p x h hb hp hx
  refine e0_3 (own h hb) λh1 er3 er4=> ?_
  refine J4X▸?_
  obtain rfl:=er4
  obtain⟨m,hm⟩:=W.four
  have hlen:=lh W h1
  have hsum:kM ((fJ size chain p0 bs births i).take ((fJ size chain p0 bs births i).length - 16))=(fJ size chain p0 bs births i).drop ((fJ size chain p0 bs births i).length - 16):=qI (JGL h1)
  exact k7 W (λj hj=>dy hs hj) h1 (by rw[wi x (by exact z30 0x110110921a2092 hp hlen),J4o];exact hlen) (xQ (b:=fJ size chain p0 bs births i) (m:=m - 4) (by exact z40 0x400000110400000111400101010410100102f814b90a4831b20a34b2a2402f884 hsz.1 hm hlen fS) hsum (by exact z30 0x110110921a2092 hp hlen) hx)
 ·intro i j q q' b h h' hb
  refine e0_2 (q0 h) λh1 er5=> ?_
  refine J9y▸?_
  refine e0_3 (own h' hb) λh2 er6 er7=> ?_
  clear er5 h h' hb
  obtain rfl:=er6
  rw[er7]
  by_cases e:i=j
  ·rw[<- e]
   refine (JC rfl).symm▸?_
   refine (jx).symm▸?_
   refine (hl).symm▸?_
   refine Fi W (X:=aQ size) (Jb _) (λj hj=> ?_) ?_ (by unfold aQ;simp) (gf W.ch.1)
   ·by_cases e:j=i
    ·subst e;exact gF _ _ _
    ·show aE _ (aY _ _ _)=_
     rw[cF λz=>e (dK hs z)];exact dy hs hj
   ·show aE _ (aY _ _ _)=_
    rw[cF λz=>by have:=dK hs z;exact z20 0x11601a1092 h1 this];exact ma hs
  ·refine (JL e).symm▸?_
   exact k7 W (λj hj=>dy hs hj) h1 (lh W h2) (kh (JGL h2) (by exact z01 0x1101011000000009f80100804c35005f80101802 hch.1 hch.2) (by exact z20 0x11110010000007f80e10e08041091e2f8182 hf h2) (.inr (by exact z20 0x1010111e0e2301a31 e)))
 ·intro i q h
  refine e0_2 (q0 h) λh1 er8=> ?_
  refine er8.symm▸?_
  have h8:(rowB 1 (rmd [47,122])).length=8:=by rw[bS];decide
  refine k7 W (λj hj=> ?_) h1 (cR (by exact z10 0x1102c2f880402f881 hsz.1)) (kh (by exact z10 0x1102c2f880402f881 hsz.1) (by exact z01 0x1101011000000009f81809118090804c35005f80101802 hch.1 hch.2) (by exact z20 0x11110010000007f80e10e08041091e2f8182 hf h1) (.inl (by exact z01 0x101809230)))
  have k1:(aP size chain p0 births j).k≠[0,(bp size chain p0 bs births wr).next,aq size]:=λz=>by
   have:=dK hs (b2:=births) (j:=J8+1) z;exact z20 0x101618190a1092 hj this
  have k2:(aP size chain p0 births j).k≠[0,(bp size chain p0 bs births wr).next+aq size,aq size]:=λz=>by
   have z:(aP size chain p0 births j).k=(aP size chain p0 births (J8+2)).k:=by
    refine (z).trans ?_
    show [0,p0+((J8+1:Nat):Int)*aq size+aq size,aq size]=[0,p0+((J8+2:Nat):Int)*aq size,aq size]
    rw[show ((J8+2:Nat):Int)=((J8+1:Nat):Int)+1 from rfl,J8v,J5V,J7I]
   have:=dK hs z;exact z20 0x101628190a1092 hj this
  show aE _ (aY [0,(bp size chain p0 bs births wr).next,aq size] _ (aY [0,(bp size chain p0 bs births wr).next+aq size,aq size] _ (aY [0,(bp size chain p0 bs births wr).next,aq size] _ (cN size chain p0 bs births))))=_
  rw[cF k1,cF k2,cF k1]
  exact dy hs hj
end
theorem xL (n:Nat) {x c:Int}(hx:0<=x) (hc:0<=c):J5H n (x+c) - J5H n x<=J28:=by
 refine e1_1 (J5W hx) λa er0=> ?_
 obtain rfl:=er0
 refine e1_1 (J5W hc) λd er1=> ?_
 obtain rfl:=er1
 rw[<- Int.natCast_add,lg,lg,J0l]
 refine Nat.sub_le_iff_le_add'.mpr ?_
 rw[<- Nat.add_min_add_right]
 exact Nat.le_min.mpr ⟨J8n _ _,JJ (J80 _ _) (J2f _ _)⟩
theorem CV {α:Type}(b:List α) {x c:Int}(hx:0<=x) (hc:0<=c):(cut b (some x) (some (x+c))).length<=J28:=by
 unfold cut
 rw[J0k]
 exact JJ (J8n _ _) (xL _ hx hc)
def ou (p:List Nat):Prop:=p=[47,97]∨p=[47,98]∨p=[47,99]
theorem Ci {k:Int}(h:0<=k/\k<3):ou (cQ k):=by
 refine e1_1 (J5W h.1) λn er0=> ?_
 obtain rfl:=er0
 have h:n<3:=Int.ofNat_lt.mp h.2
 cases n with
 |zero=>exact .inl rfl
 |succ n=>cases n with
  |zero=>exact .inr (.inl rfl)
  |succ n=>
   obtain rfl:n=0:=Nat.lt_one_iff.mp (J41 (J41 h))
   exact .inr (.inr rfl)
theorem path_ok {p:List Nat}(h:ou p):(Fld.t p).ok:=by
 rcases h with rfl|rfl|rfl<;>exact⟨by unfold okT;decide,by decide⟩
theorem zx {p:List Nat}(h:ou p):(Fld.t (p++[120])).ok:=by
 rcases h with rfl|rfl|rfl<;>exact⟨by unfold okT;decide,by decide⟩
theorem rS {p:List Nat}(h:ou p):p.length=2:=by rcases h with rfl|rfl|rfl<;>rfl
theorem yj {p:List Nat}(h:ou p) {k:Int}(hk:0<=k/\k<4294967296) {b:List UInt8}(hb:J2<=1000):(wr p k b).ok where
 find:=by rfl
 at_:=⟨7,by rfl⟩
 flds:=by
  intro f hf
  rcases Jf hf with rfl|hf
  ·exact path_ok h
  ·rcases Jf hf with rfl|hf
   ·exact hk
   ·rw[JQ hf];exact hb
 few:=by show 3<=3;decide
 one:=by show 1<=3;decide
theorem D1 {p:List Nat}(h:ou p):(rnm p).ok where
 find:=by rfl
 at_:=⟨6,by rfl⟩
 flds:=by
  intro f hf
  rcases Jf hf with rfl|hf
  ·exact path_ok h
  ·rw[JQ hf];exact zx h
 few:=by show 2<=3;decide
 one:=by show 1<=2;decide
theorem EH {p:List Nat}(h:ou p):(crt p).ok where
 find:=by rfl
 at_:=⟨0,by rfl⟩
 flds:=by
  intro f hf
  rcases Jf hf with rfl|hf
  ·exact path_ok h
  ·rw[JQ hf];exact⟨by decide,by decide⟩
 few:=by show 2<=3;decide
 one:=by show 1<=2;decide
theorem Ca {p:List Nat}(h:ou p):(rmd p).ok where
 find:=by rfl
 at_:=⟨4,by rfl⟩
 flds:=by intro f hf;rw[JQ hf];exact path_ok h
 few:=by show 1<=3;decide
 one:=by show 1<=1;decide
theorem vL {p:List Nat}(h:ou p) (k:Int) (b:List UInt8):(wr p k b).size=14+J2:=by
 show 5+((1+p.length)+(4+((2+J2)+0)))=_
 rw[rS h];exact z10 0x110e890802899489389589a0
structure kl (room:Int) (r:Rc):Prop where
 ok:JEz
 can:i6 room r
 par:∀p∈parts room r,p.ok/\JDq<256/\(J2m:Int)<=room
 two:(parts room r).length<=2
theorem iE {room:Int}{r:Rc}(h:JEz) (hs:J7l<256) (hl:(J3F:Int)<=room):kl room r:=
 ⟨h,.inl hl,by rw[parts_le hl];intro p hp;rw[JQ hp];exact⟨h,hs,hl⟩,by rw[parts_le hl];show 1<=2;decide⟩
theorem DM {room:Int}(hr:28<=room/\room<=76) {p:List Nat}(h:ou p) {k:Int}(hk:0<=k/\k<999) {b:List UInt8}(hb:J2<=25):kl room (wr p k b):=by
 have hsz:=vL h k b
 by_cases hl:((wr p k b).size:Int)<=room
 ·exact iE (yj h (by exact z01 0x1101011000000009f801008043e73f80100802 hk.1 hk.2) (by omega)) (by show 8<256;decide) hl
 ·have e:room - (((wr p k b).size:Int) - (J2:Int))=room - 14:=by exact z21 0x110101e82a1e0ea2a21e890a1 hsz
  refine⟨yj h (by exact z01 0x1101011000000009f801008043e73f80100802 hk.1 hk.2) (by omega),.inr (f4 p k b rfl (by exact z21 0x10111e0ea2a1801e890a21c2f802 hr.1 hsz) (by omega) (by exact z01 0x113e83f8004c2f8001 hr.2)),?_,?_⟩
  ·rw[iK hl,e]
   intro q hq
   refine e1_2 (Ja hq) λi hi er0=> ?_
   obtain rfl:=er0
   have hi:=J1d hi
   have hn:rngN 0 J2 (room - 14)<=J2:=iI (by exact z01 0x11e80a18001c2f801 hr.1)
   have h0:0<=(i:Int)*(room - 14):=J1C (by omega) (by exact z01 0x11e80a08001c2f801 hr.1)
   have hc:=CV b (x:=0+(i:Int)*(room - 14)) (c:=room - 14) (by exact z01 0x11008908000801 h0) (by exact z01 0x11e80a08001c2f801 hr.1)
   have h1:(i:Int)*(room - 14)<=25*62:=J53 (by exact z30 0x1111192f80e0128209192f8183 hb hi hn) (by exact z01 0x113e2f8e80a04c2f8001 hr.2) (by exact z01 0x11e80a08001c2f801 hr.1) (by omega)
   refine (i_aa (yj h (by exact z02 0x11010101011000000009f8108909110890908043e2f8192fb1010803e73f80100804 hk.1 hk.2 h0 h1) (by exact z32 0x10010010000100101110113e83f80847e83a4240832e031e892a192f8186 hb hsz hl hc rfl fT)) (by show 8<256;decide) ?_)
   rw[vL h];exact z12 0x10010011001011010e89e027e81a2220811c2f804 hr.1 hc rfl fT
  ·rw[iK hl,e]
   unfold pcs
   rw[J6,J0I]
   delta rngN J0X
   rw[JC (by exact z01 0x11e80a08101c2f801 hr.1)]
   split
   ·have:((J2:Int) - 0 - 1) / (room - 14)<2:=JB5 (by exact z01 0x11e80a08101c2f801 hr.1) (by exact z11 0x112e81a2b18080eaa1192f80811c2f802 hr.1 hb)
    exact z02 0x1001000100101128080718190228113 this rfl fT
   ·decide
theorem D3 {room:Int}(hr:28<=room/\room<=76) (t:List Int):kl room (cV t).1:=by
 have hp:=Ci (bE (aK J0h) (k:=3) (by decide))
 unfold cV
 split
 ·unfold D4
  refine DM hr hp (bE _ (by decide)) ?_
  rw[J4L]
  have:=bE (aK J1F) (k:=26) (by decide)
  exact z01 0x1001010011192f808071a2f8012 this.2 fT
 ·dsimp only
  have pl:=rS hp
  split
  ·refine iE (D1 hp) (by show 7<256;decide) ?_
   have:(rnm (cQ (Jh (aK J0h) 3))).size=12:=by
    show 5+((1+(cQ _).length)+((1+(cQ _++[120]).length)+0))=12
    rw[JO,pl];rfl
   exact z11 0x101110e0c80a11c2f802 hr.1 this
  ·split
   ·refine iE (EH hp) (by show 1<256;decide) ?_
    have:(crt (cQ (Jh (aK J0h) 3))).size=12:=by
     show 5+((1+(cQ _).length)+(4+0))=12
     rw[pl]
    exact z11 0x101110e0c80a11c2f802 hr.1 this
   ·refine iE (Ca hp) (by show 5<256;decide) ?_
    have:(rmd (cQ (Jh (aK J0h) 3))).size=8:=by
     show 5+((1+(cQ _).length)+0)=8
     rw[pl]
    exact z11 0x101110e0880a11c2f802 hr.1 this
theorem zl (t:List Int):(cV t).2.length<=J6C:=by
 delta cV D4
 split<;>simp<;>omega
def recsN:Nat->List Int->List Rc×List Int
 |0,t=>([],t)
 |n+1,t=>((cV t).1::(recsN n (cV t).2).1,(recsN n (cV t).2).2)
theorem iJ {room:Int}(hr:28<=room/\room<=76) (n:Nat):∀t:List Int,(∀r∈(recsN n t).1,kl room r)/\(recsN n t).1.length=n/\(recsN n t).2.length<=J6C:=by
 induction n with
 |zero=>exact λt=>⟨λy h=>(nomatch h),rfl,Jb _⟩
 |succ n ih=>
  intro t
  refine e0_3 (ih (cV t).2) λh1 h2 h3=> ?_
  refine⟨λr h=> ?_,JD J7C h2,JJ h3 (zl t)⟩
  rcases Jf h with rfl|h
  ·exact D3 hr t
  ·exact h1 r h
theorem lc {room:Int}{rs:List Rc}:(∀r∈rs,kl room r)->(∀p∈flat room rs,p.ok/\JDq<256/\(J2m:Int)<=room)/\(flat room rs).length<=2*J5n:=by
 induction rs with
 |nil=>exact λy=>⟨λy h=>(nomatch h),Jb _⟩
 |cons r rs ih=>
  intro h
  refine e0_2 (ih λq hq=>h q (Jk _ hq)) λh1 h2=> ?_
  have h3:=h r JB
  have e:flat room (r::rs)=parts room r++flat room rs:=by unfold flat;rw[J0t,J3A]
  refine (e).symm▸?_
  refine⟨λp hp=>J3a (J08 hp) (h3.par p) (h1 p),?_⟩
  rw[JO,J0w,JGP,J4I]
  exact J6W h2 h3.two
structure LP (i:Nat) (t:List Int) (size:Nat) (chain seq txg p0:Int) (gone:be) (bs:List (List (Int×Rc))) (births:List Int):Prop where
 W:WOk size chain p0 bs births
 t:J6C<=63
 ch:chain<=999+4*i
 seq:0<=seq/\seq<=998+4*i
 txg:1<=txg/\txg<=9+i
 p:p0<=1+250*i
 bl:J8<=4*i
 gone:J6h<=40*i
 bb:∀b∈births,b<=9+i
section
variable {i:Nat}{t t':List Int}{size:Nat}{chain seq txg p0 wr:Int}{gone:be}{bs:List (List (Int×Rc))}{births:List Int}
theorem LP.next (H:LP i t size chain seq txg p0 gone bs births):0<=p0+((J8+1:Nat):Int)*aq size/\p0+((J8+1:Nat):Int)*aq size<=p0+8*(J8+1):=by
 have hc:=qB H.W
 have h1:(0:Int)<=((J8+1:Nat):Int)*aq size:=J1C (by omega) (by omega)
 have hp:=H.W.p
 have h2:((J8+1:Nat):Int)*aq size<=((J8+1:Nat):Int)*8:=Int.mul_le_mul_of_nonneg_left (by omega) (by omega)
 exact z12 0x11001011180e98b192190219080481809ec20108020803 h1 hp.1 h2
theorem wg:(cN size chain p0 bs births).length=J8+1:=by rw[eP,J6,J0I]
theorem LP.wsl:((bp size chain p0 bs births wr).ws).length=J8:=by show ((JZ J8).map _).length=_;rw[J6,J0I]
theorem LP.anew (H:LP i t size chain seq txg p0 gone bs births) (hi:i<=2) (ht:t'.length<=63) {d:Int}(hd:0<=d/\d<2):
  LP (i+1) t' size (chain+1+(0+(i:Int)*1)) seq (txg+d) (p0+((J8+1:Nat):Int)*aq size) (dN (txg+d) ((bp size chain p0 bs births wr).ws++[(bp size chain p0 bs births wr).a]) gone) [] [txg+d]:=by
 have h5:=JFD
 have hn:=H.next
 have hc:=H.W.ch
 have h1:=H.ch
 have h2:=H.seq
 have h3:=H.txg
 have h4:=H.p
 have h6:=H.gone
 refine⟨⟨JEm,H.W.four,by exact z11 0x11051010c35005f810ec08918199110ec0891819918040e4b3e73f8910118028083 hi hc.1 h1,by exact z22 0x1110811a3f10010027104f8329132908040efa2fb18920181e98b29329032908004b1828085 hi h5 hn.1 hn.2 h4,rfl,?_,by decide,λb hb=>(by cases hb)⟩,ht,by exact z11 0x1111809e4b3e73f8910ec0891819900e4b3e73f891028082 hi h1,by exact z11 0x1101011809e4b3e63f8910108040e4b3e63f891010802 h2.1 h2.2,by exact z12 0x11010101011809e989219021918040e989101180282120804 hd.1 hd.2 h3.1 h3.2,by exact z22 0x1118202f1809efa2fb18932900efa2fb18920181e98b29329004b1828084 hi h5 hn.2 h4,J1m _,?_,?_⟩
 ·intro b hb;rw[JQ hb];exact z12 0x110101101010f42405f8219121908040e9891011802821208028085 hi hd.1 hd.2 h3.1 h3.2
 ·have h:=j5 (txg+d) ((bp size chain p0 bs births wr).ws++[(bp size chain p0 bs births wr).a]) gone
  rw[JO,LP.wsl,J4K] at h
  exact z40 0x111141819282fb08182939081282fb3814b2828184 hi h5 h6 h
 ·intro b hb;rw[JQ hb];exact z12 0x1111809e98921900e9891028212 hd.2 h3.2
theorem LP.room (H:LP i t size chain seq txg p0 gone bs births):28<=(size:Int) - 36/\(size:Int) - 36<=76:=by have:=JEm;exact z10 0x1101014c2f8242f80ea0242f80ea1c2f804702f8080402f882 this.1 this.2
theorem Am (room seq:Int) (ps:List Rc):(lcom room seq ps).seq=seq+Jt:=(iS room seq ps).q
theorem LP.commit (H:LP i t size chain seq txg p0 gone bs births) (hi:i<=2) (ht:t'.length<=63) {d:Int}(hd:0<=d/\d<2) {rs:List Rc}(hr:∀r∈rs,kl ((size:Int) - 36) r) (hl:J5n<=2):
  LP (i+1) t' size chain (seq+(flat ((size:Int) - 36) rs).length) (txg+d) p0 gone (bs++(lcom ((size:Int) - 36) seq (flat ((size:Int) - 36) rs)).fill) (births++J0E (lcom ((size:Int) - 36) seq (flat ((size:Int) - 36) rs)).fill.length (txg+d)):=by
 have hc:=H.W.ch
 have h1:=H.ch
 have h2:=H.seq
 have h3:=H.txg
 have h4:=H.p
 have h5:=JFD
 have h6:=H.gone
 refine e0_2 (lc hr) λf1 f2=> ?_
 have hfl:=(iS ((size:Int) - 36) seq (flat ((size:Int) - 36) rs)).fl
 have hfo:=r9 (room:=(size:Int) - 36) (seq:=seq) λp hp=>(f1 p hp).2.2
 refine⟨⟨JEm,H.W.four,by omega,H.W.p,?_,?_,?_,?_⟩,ht,by exact z11 0x111809e4b3e73f89100e4b3e73f89101 h1,by exact z31 0x11102100101819e4b3e63f890e3900e39080422b081e4b3e63f8930308028284 hl h2.1 h2.2 f2,by exact z12 0x11010101011809e989219021918040e989101180282120804 hd.1 hd.2 h3.1 h3.2,by exact z11 0x111809efa2fb189100efa2fb189101 h4,?_,by exact z20 0x111819282fb081282fb081 h6,?_⟩
 ·rw[JO,JO,J4L,H.W.bi];omega
 ·intro b hb
  rcases J08 hb with q|q
  ·exact H.W.bb b q
  ·rw[J5K q];exact z12 0x110101101010f42405f8219121908040e9891011802821208028085 hi hd.1 hd.2 h3.1 h3.2
 ·rw[JO];exact z50 0x1111241e2f8109841832b4824b08283828285 hi hl h5 f2 hfl
 ·intro b hb
  rcases J08 hb with q|q
  ·exact H.W.fo b q
  ·refine⟨hfo b q,λx hx=> ?_⟩
   refine e0_4 ((xu (room:=(size:Int) - 36) (ps:=flat ((size:Int) - 36) rs) (λp hp=>⟨(f1 p hp).1,(f1 p hp).2.1⟩) (f:=⟨seq,[],0⟩) h2.1 (λb hb=>(by cases hb))) b q x hx) λx1 x2 x3 x4=> ?_
   refine (ax x1 x2 ?_ x4)
   have x3:x.1<seq+((flat ((size:Int) - 36) rs).length:Int)+1:=x3
   exact z32 0x111124f42405f831182e4993112b280e4b3e63f8940281828085 hi hl h2.2 f2 x3
 ·rw[JO];exact z50 0x1111218294b109841832b4824b0828384 hl h5 f2 hfl
 ·intro b hb
  rcases J08 hb with q|q
  ·have:=H.bb b q;exact z11 0x111809e989100e989101 this
  ·rw[J5K q];exact z12 0x1111809e98921900e9891028212 hd.2 h3.2
theorem LP.lcOk (H:LP i t size chain seq txg p0 gone bs births) (hi:i<=2) {rs:List Rc}(hr:∀r∈rs,kl ((size:Int) - 36) r) (hl:J5n<=2):Gj ((size:Int) - 36) rs (bK bs) births:=by
 refine e0_2 (lc hr) λf1 f2=> ?_
 have h5:=JFD
 have hb:=H.W.bi
 refine⟨λr h=>⟨(hr r h).ok,(hr r h).can⟩,λp hp=>(f1 p hp).1,by omega,by exact z20 0x112642f80812b0828182 hl f2,?_,by exact z30 0x101143e83f80818290a14b2828183 hi h5 hb⟩
 unfold bK;rw[J6];exact z20 0x1143e83f80814b0828182 hi h5
theorem LP.comOk (H:LP i t size chain seq txg p0 gone bs births) (hi:i<=2) {d:Int}(hd:0<=d/\d<2) {rs:List Rc}(hr:∀r∈rs,kl ((size:Int) - 36) r) (hl:J5n<=2):wu size chain seq (txg+d) (bp size chain p0 bs births wr) rs:=by
 have h5:=JFD
 have e:(size:Int) - 20 - 16=(size:Int) - 36:=by exact z10 0x11242f80ea102f8142f80eaa20
 obtain⟨f1,f2⟩:=lc hr
 have hc:=H.W.ch
 have h2:=H.seq
 have h3:=H.txg
 have h4:=H.p
 have hn:=H.next
 have hsz:=JEm
 have hs:1<=size:=by exact z10 0x1101880402f881 hsz.1
 refine⟨?_,?_,by exact z10 0x11a80828081 hl,?_,by exact z11 0x11041010f42405f811108040e4b3e63f8910108028083 hi h2.1 h2.2,?_,by exact z10 0x1101013e83f8080252f884702f8080402f882 hsz.1 hsz.2,by exact z01 0x110101f42405f80100804c35005f80101802 hc.1 hc.2,by exact z12 0x110101101010f42405f8219121908040e9891011802821208028085 hi hd.1 hd.2 h3.1 h3.2⟩
 ·rw[e];exact λr h=>⟨(hr r h).ok,(hr r h).can⟩
 ·rw[e];exact f1
 ·rw[e];exact z20 0x112642f80812b0828182 hl f2
 ·rw[e]
  refine⟨⟨by show (0:Int)<=(J8:Nat);exact z10 0x10e0800,by show ((J8:Nat):Int)+_<1000000;exact z40 0x11124f42405f81819e0e9132b1824b08283828284 hi hl h5 f2⟩,⟨hn.1,?_⟩,?_,?_,?_,rfl,rfl⟩
  ·show p0+((J8+1:Nat):Int)*aq size+64*(((flat ((size:Int) - 36) rs).length+1:Nat):Int)<100000
   exact z42 0x111402f8802f11a3f186a05f81809e402fb54991183e98b4954901efa2fb1894022b0814b38282828186 hi hl h5 f2 h4 hn.2
  ·show (cN size chain p0 bs births).length+_<=50000
   rw[wg];exact z40 0x11124c3504f8181918099832b1824b08283828284 hi hl h5 f2
  ·rw[LP.wsl];exact z40 0x111243e83f8181909832b1824b08283828284 hi hl h5 f2
  ·show (aE (aP size chain p0 births J8).k (cN size chain p0 bs births)).isSome=true
   rw[ma hs];rfl
theorem lM (k:Nat):∀t:List Int,recsN (k+1) t=((recsN k t).1++[(cV (recsN k t).2).1],(cV (recsN k t).2).2):=by
 induction k with
 |zero=>exact λt=>rfl
 |succ k ih=>
  intro t
  show ((cV t).1::(recsN (k+1) (cV t).2).1,(recsN (k+1) (cV t).2).2)=_
  rw[ih (cV t).2];rfl
theorem xb {m:Nat}:∀{k:Nat}{t:List Int},k<m->(recsN m t).1[k]? =some (cV (recsN k t).2).1:=by
 induction m with
 |zero=>intro k t h;omega
 |succ m ih=>
  intro k t h
  have hl:=(iJ (room:=28) (by omega) m t).2.1
  rw[lM]
  by_cases hk:k<m
  ·rw[J0W (by omega)];exact ih hk
  ·clear ih
   obtain rfl:k=m:=by exact z20 0x10111010a10931819092 h hk
   rw[J0D (by exact z20 0x10110810a1 hl),hl,JAu];rfl
end
end Internal
end
section
open PySem PySem.W PyProof.Rows PySem.Calls
namespace Internal
def fB:Nm:=⟨[("script",.local),("tape",.cell),("size",.local),("chain",.local),("seq",.local),("steps",.local),("state",.local),("turn",.local),("records",.local),("io",.cell),("log",.cell),("txg",.cell),("_law_next",.globalImplicit),("Heap",.globalImplicit),("IntentLog",.globalImplicit),("range",.globalImplicit),("_law_is_refused",.globalImplicit),("_law_commit",.globalImplicit),("_law_is_right",.globalImplicit),("_law_are_behind",.globalImplicit),("rows_of",.globalImplicit),("_law_broken",.globalImplicit)],false,["script","size","chain","seq","steps","state","turn","records"],["txg","log","io","tape"],[],true⟩
def BE:Nm:=⟨[(".0",.local),("k",.local),("_law_record",.globalImplicit),("tape",.cell)],true,["script","size","chain","seq","steps","state","turn","records"],["txg","log","io","tape"],[".0","k"],false⟩
theorem Gp:aG fB ["script"] [some 0,none,none,none,none,none,none,none] [none,none,none,none] (ao (aB 73)):=aw rfl (by rfl)
def mt:PB fB 9 ((ay (aB 73)).drop 8):=
 (.con (.iff (.nt (.tru (.fn 18 33 59 (J4 (n:=9) (J3 mh (by decide))) (.con (.cel 10 1) (.con (.cel 9 2) (.con (.loc 6 5) .nil)))))) (.con (.ret .boo)
  .nil) .nil)
  (.con (.iff (.or (.nt (.tru (.fn 19 34 60 (J4 (n:=9) (J3 jH (by decide))) (.con (.cel 10 1) (.con (.cel 9 2) (.con (.loc 6 5) (.con (.bin cz (.cel 11 0) .int) .nil))))))) (.or (.cmp eH (.fn 20 25 44 (J4 (n:=9) (J3 jF (by decide))) (.con (.cel 9 2) (.con .non .nil))) (.lst .nil)) .or0)) (.con (.ret .boo)
  .nil) .nil)
  (.con (.iff (.or (.nt (.tru (.rf2 (n:=1) 2 9 16))) (.or (.nt (.tru (.rf2 (n:=1) 2 9 16))) .or0)) (.con (.ret .boo)
  .nil) .nil)
  (.con (.ret (.or2 (.cmp cg (.key 22 (.loc 6 5)) (.lst .nil)) (.fn 21 36 62 (J4 (n:=9) (J3 qh (by decide))) (.con (.cel 1 3) (.con (.cel 9 2) (.con (.cel 10 1) (.con (.loc 6 5) .nil)))))))
  .nil))))
def Dz:PB fB 9 (ay (aB 73)):=
 (.con (.asg (.loc 0 0) (.slc (.loc 0 0) .non (.som .int)))
  (.con (.asg (.cel 1 3) (.rev (.loc 0 0)))
  (.con (.asW (names:=["size","chain"]) (.loc 3 2 (.loc 2 1 .nil)) (.con (.bin aH .int (.bin dE .int (.bin b8 (.fn 12 27 53 (J4 (n:=9) (J3 aW (by decide))) (.con (.cel 1 3) .nil)) .int))) (.con (.bin aH .int (.bin b8 (.fn 12 27 53 (J4 (n:=9) (J3 aW (by decide))) (.con (.cel 1 3) .nil)) .int)) .nil)))
  (.con (.asW (names:=["seq","steps"]) (.loc 5 4 (.loc 4 3 .nil)) (.con (.bin b8 (.fn 12 27 53 (J4 (n:=9) (J3 aW (by decide))) (.con (.cel 1 3) .nil)) .int) (.con (.bin aH .int (.bin b8 (.fn 12 27 53 (J4 (n:=9) (J3 aW (by decide))) (.con (.cel 1 3) .nil)) .int)) .nil)))
  (.con (.asN (.con (.cel 9 2) (.con (.cel 11 0) .nil)) (.con (.fn 13 45 71 (bC (n:=8) (J3 nY (by decide)) (eI 5 rfl) (d6 19 rfl)) .nil) (.con (.bin aH .int (.bin b8 (.fn 12 27 53 (J4 (n:=9) (J3 aW (by decide))) (.con (.cel 1 3) .nil)) .int)) .nil)))
  (.con (.asg (.cel 10 1) (.fn 14 44 70 (bC (n:=8) (J3 jI (by decide)) (eI 4 rfl) (d6 12 rfl)) (.con (.cel 9 2) (.con (.loc 2 1) (.con (.loc 3 2) (.con (.cel 11 0) (.con (.loc 4 3) .nil)))))))
  (.con (.asg (.loc 6 5) (.dic (.con 18 (.loc 4 3) (.con 22 (.lsS .nil) (.con 25 (.lsS (.con (.cel 11 0) .nil)) .nil)))))
  (.con (.fr (.of (.bf 15 iv (.con (.loc 5 4) .nil)) (.loc 7 6)) (.con (.asg (.cel 11 0) (.bin aH (.cel 11 0) (.bin b8 (.fn 12 27 53 (J4 (n:=9) (J3 aW (by decide))) (.con (.cel 1 3) .nil)) .int)))
  (.con (.iff (.cmp cg (.bin b8 (.fn 12 27 53 (J4 (n:=9) (J3 aW (by decide))) (.con (.cel 1 3) .nil)) .int) .int) (.con (.iff (.nt (.tru (.rf1 (n:=1) 1 0 10 11 16))) (.con (.ret .boo)
  .nil) .nil)
  (.con (.exp (.me 4 18 39 none (J4 (n:=9) (J3 fj (by decide))) (.cel 10 1) (.con (.bin aH (.bin aH (.att 4 16 (.cel 10 1)) .int) (.loc 7 6)) (.con (.cel 11 0) .nil))))
  (.con (.asN (.con (.key 22 (.loc 6 5)) (.con (.key 25 (.loc 6 5)) .nil)) (.con (.lsS .nil) (.con (.lsS (.con (.cel 11 0) .nil)) .nil)))
  .nil))) (.con (.asC (Γc:=BE) 8 7 2 (.of (.bf 15 iv (.con (.bin aH .int (.bin b8 (.fn 12 27 53 (J4 (n:=9) (J3 aW (by decide))) (.con (.cel 1 3) .nil)) .int)) .nil)) (.clo 1 1)) .nil (.fn 2 28 54 (J4 (n:=9) (J3 qd (by decide))) (.con (.cel 3 3) .nil)) (aV rfl (by rfl)))
  (.con (.exp (.fn 17 31 57 (J4 (n:=9) (J3 qg (by decide))) (.con (.loc 6 5) (.con (.loc 8 7) (.con (.bin cz (.loc 2 1) .int) (.con (.cel 11 0) .nil))))))
  (.con (.iff (.cmp eH (.me 4 16 37 none (J4 (n:=9) (J3 d8 (by decide))) (.cel 10 1) (.con (.loc 8 7) (.con (.cel 11 0) .nil))) (.key 18 (.loc 6 5))) (.con (.ret .boo)
  .nil) .nil)
  .nil))))
  .nil)))
  mt))))))))
theorem F6 {α:Type}{l:List α}(h:JV<=63):cut l none (some 63)=l:=by
 show (l.drop 0).take (J5H JV ((63:Nat):Int) - 0)=l
 rw[lg,J81 h]
 exact J0a
def CI (w b r:Nat) (t:List Int) (size:Nat) (chain seq:Int) (s:LS) (gone:be) (g1 g2 g3:List PV):List SO:=
 [.tab,.list (t.map .int),.inst 543 [(21,.pv (.int 16)),(22,.loc 3),(23,.loc 4),(24,.pv (.int JP)),(19,.pv (.int J95))],.tdict JU,.tdict gone,
 .inst 433 [(14,.loc 2),(15,.pv (.int size)),(16,.pv (.int chain)),(17,.pv (.int J2T)),(18,.pv (.int seq)),(19,.loc w),(20,.pv J7k)],.list g1,.list g2,.list g3,.sdict [(18,.pv (.int seq)),(22,.loc b),(25,.loc r)]]
def Ds (k:Nat) (g:Nat->List PV) (t:List Int) (size:Nat) (chain seq:Int) (s:LS) (gone:be) (bss:List (List PV)) (births:List Int):List SO:=match k with
 |0=>CI 6 7 8 t size chain seq s gone (J2S Jv) (Ju .lst) (J35 .int)
 |1=>CI 10 11 12 t size chain seq s gone (g 0) (g 1) (g 2)++[.list (J2S Jv),.list (Ju .lst),.list (J35 .int)]
 |2=>CI 13 14 15 t size chain seq s gone (g 0) (g 1) (g 2)++[.list (g 3),.list (g 4),.list (g 5),.list (J2S Jv),.list (Ju .lst),.list (J35 .int)]
 |_=>CI 16 17 18 t size chain seq s gone (g 0) (g 1) (g 2)++[.list (g 3),.list (g 4),.list (g 5),.list (g 6),.list (g 7),.list (g 8),.list (J2S Jv),.list (Ju .lst),.list (J35 .int)]
def GO (k:Nat) (g:Nat->List PV) (a b c:List PV) (n:Nat):List PV:=match J5R n (3*k) with
 |true=>g n
 |false=>(match n - 3*k with
  |0=>a
  |1=>b
  |_=>c)
def FU (scr:List Int) (size:Nat) (chain0 seq0 steps:Int) (x y:Option EV) (txg:Int) (sl:List SO):St:=
 ⟨[some (.pv (.lst (J6b .int))),some (.pv (.int size)),some (.pv (.int chain0)),some (.pv (.int seq0)),some (.pv (.int steps)),some (.loc 9),x,y],[some (.pv (.int txg)),some (.loc 5),some (.loc 2),some (.loc 1)],[],sl⟩
inductive Gk (scr:List Int) (size:Nat) (chain0 seq0 steps:Int) (i:Nat) (st:St):Prop
 |mk (k:Nat) (g:Nat->List PV) (t:List Int) (chain seq txg p0 wr:Int) (gone:be) (bs:List (List (Int×Rc))) (births:List Int) (x y:Option EV) (sl:List SO) (e0:k<=i) (e1:LP i t size chain seq txg p0 gone bs births) (e2:sl=Ds k g t size chain seq (bp size chain p0 bs births wr) gone (bK bs) births) (e3:st=FU scr size chain0 seq0 steps x y txg sl)
def Ao (f:Fl) (st:St):Prop:=match f with
 | .ret e=>e=.pv (.bool true)/\nth J5 0=some .tab
 |_=>False
def noZ:List Nat->Bool
 |[]=>true
 |0::_=>false
 |(_+1)::r=>noZ r
theorem wb0 {so:SO}:∀{ids:List Nat}{rest sl:List SO},noZ ids=true->nth sl 0=some so->nth (wb ids rest sl) 0=some so
 |[],rest,s0::sl,_,h=>h
 |0::_,_,_,h,_=>nomatch h
 |(i+1)::ids,[],sl,_,h=>h
 |(i+1)::ids,r::rest,s0::sl,hz,h=>wb0 (ids:=ids) (rest:=rest) (sl:=upd (s0::sl) (i+1) r) hz h
theorem An (scr:List Int) {size:Nat}{chain0 seq0 steps:Int}{n:Nat}(hlen:n<=3) {st:St}(h:Gk scr size chain0 seq0 steps n st):mt.vc st Ao:=by
 obtain⟨k,g,t,chain,seq,txg,p0,wr,gone,bs,births,x1,y1,_,hk,H,rfl,rfl⟩:=h
 have hk4:k=0∨k=1∨k=2∨k=3:=by exact z20 0x100011110000011000011000001100001100001100001100001100001100001100001100010100010100100011000100380a280a5180a5080a510838182 hlen hk
 have hR:=rQ H.W wr
 have hB:=EM H.W (txg - 1) wr
 have hb2:bs≠[]->((bK bs).map J2n).length≠0:=λhb=>by
  rw[J6];unfold bK;rw[J6];exact λz=>hb (J0x z)
 have hBr:=λhb=>Ga H.W hb wr
 have hT:=H.t
 clear H hk hlen
 rcases hk4 with rfl|rfl|rfl|rfl
 all_goals
  refine⟨rfl,size,chain,seq,gone,bp size chain p0 bs births wr,bK bs,births,eF size chain p0 bs births 0 J8,bs,pj size p0 J8,rfl,rfl,hR,?_⟩
  refine⟨rfl,size,chain,seq,gone,bp size chain p0 bs births wr,bK bs,births,txg - 1,eF size chain p0 bs births 0 J8,pj size p0 J8,rfl,rfl,hB,?_⟩
  refine⟨rfl,(bp size chain p0 bs births wr).blocks,gone,(bp size chain p0 bs births wr).next,(bp size chain p0 bs births wr).wr,rfl,.inl ⟨rfl,?_⟩⟩
  refine (i_aa (by decide) (λz=>absurd rfl z) (λy=>(i_aa rfl rfl ((?_)))))
  refine (ax ⟨_,rfl⟩ ⟨_,rfl⟩ (.inl (by decide)) ((ax ⟨_,rfl⟩ ⟨_,rfl⟩ (.inr (by decide)) ((?_)))))
  by_cases hb:bs=[]
  ·refine hb.symm▸?_
   exact (i_aa (by decide) (λz=>absurd rfl z) (λy=>(i_aa rfl rfl (⟨rfl,rfl⟩))))
  ·refine (i_aa (by decide) (λy=> ?_) (λz=>absurd z (hb2 hb)))
   refine⟨rfl,t,size,chain,seq,gone,bp size chain p0 bs births wr,bK bs,births,rfl,rfl,⟨hBr hb,hT⟩,λsl'=> ?_⟩
   exact v9.mpr (v7.mpr ⟨rfl,wb0 rfl rfl⟩)
theorem GV {vi:VC (List (List PV)×(St->Prop))}{vt:List PV->VC Unit}{vb:VC Fl}{P:Fl->St->Prop}{s0 s1:St}(items:List (List PV)) (keep:St->Prop) (J:Nat->St->Prop) (hvi:∀P',P' (items,keep) s1->vi s0 P') (h0:J 0 s1)
  (turn:∀k x st2,items[k]? =some x->J k st2->∀K:St->Prop,(∀st,J (k+1) st->K st)->keep st2/\vt x st2 λy st3=>vb st3 (vW K P)) (fin:∀st2,J J0Q st2->keep st2/\P .next st2):ER vi vt vb s0 P:=⟨hvi _ (i_eaa J h0 turn fin)⟩
theorem Ew (scr:List Int) (hi:J9S<=63):Dz.vc ⟨[some (.pv (.lst (J6b .int))),none,none,none,none,none,none,none],[none,none,none,none],[],[.tab]⟩ Ao:=by
 refine⟨by rw[J6];omega,?_⟩
 rw[F6 (by rw[J6];omega)]
 refine⟨by rw[J6];omega,?_⟩
 rw[<- List.map_reverse]
 have ht:scr.reverse.length<=63:=by rw[List.length_reverse];exact hi
 generalize scr.reverse=t at ht
 have l1:J32<=63:=by rw[J0M];omega
 have l2:J3D<=63:=by rw[J0M];omega
 have l3:J1x<=63:=by rw[J0M];omega
 have l4:J2P<=63:=by rw[J0M];omega
 have l5:t.dropLast.dropLast.dropLast.dropLast.dropLast.length<=63:=by rw[J0M];omega
 have b1:=bE (aK t) (k:=4) (by decide)
 have b2:=bE (aK J0h) (k:=999) (by decide)
 have b3:=bE (aK J0J) (k:=999) (by decide)
 have b4:=bE (aK J03) (k:=3) (by decide)
 have b5:=bE (aK J1F) (k:=9) (by decide)
 obtain⟨size,hsize⟩:∃size:Nat,64+16*Jh (aK t) 4=size:=⟨(64+16*Jh (aK t) 4).toNat,by exact z02 0x10010102f010010102f101010010010101e0102fb402f892170102fb402f891200803 b1.1 rfl fT⟩
 refine⟨rfl,t,rfl,rfl,ht,(ax (by decide) (by decide) rfl ⟨J0h,rfl,rfl,l1,(i_aa (by decide) rfl ?_)⟩)⟩
 rw[hsize]
 refine⟨rfl,J0J,rfl,rfl,l2,(i_aa (by decide) rfl ⟨J03,rfl,rfl,l3,(i_aa (by decide) rfl ?_)⟩)⟩
 obtain⟨chain,hchain⟩:∃c:Int,1+Jh (aK J0h) 999=c:=⟨_,rfl⟩
 obtain⟨seq,hseq⟩:∃c:Int,Jh (aK J0J) 999=c:=⟨_,rfl⟩
 obtain⟨steps,hsteps⟩:∃c:Int,1+Jh (aK J03) 3=c:=⟨_,rfl⟩
 obtain⟨txg,htxg⟩:∃c:Int,1+Jh (aK J1F) 9=c:=⟨_,rfl⟩
 rw[hchain,hseq,hsteps]
 refine (bv rfl rfl rfl rfl ?_)
 refine⟨rfl,J1F,rfl,rfl,l4,(i_aa (by decide) rfl ?_)⟩
 rw[htxg]
 refine⟨rfl,size,chain,seq,[],[],1,0,txg,rfl,?_,rfl,(bv (by exact z11 0x101102f0252f880e1102fb402f89210802 b1.1 hsize) (by exact z11 0x110102f3e83f8080e1102fb402f89248112 b1.2 hsize) (by exact z02 0x1011018001189210802 b2.1 hchain) (by decide) (by decide)),?_⟩
 ·intro z;cases z
 refine⟨rfl,?_⟩
 have hs3:1<=steps/\steps<=3:=by exact z02 0x1101010101380001804011892381110803 b4.1 b4.2 hsteps
 have hsm:dY 0 steps 1=true:=Jq (by exact z02 0x1000010000110101010110000100003b9aca008f81801808143b9aca008f800403b9aca008f8d043b9aca008f80804083b9aca008f8d04011892381110803 b4.1 b4.2 hsteps)
 have hrng:∀st,aS (.pv (.rng 0 steps 1)) st=some (cI 0 steps 1):=λst=>JC hsm
 refine (i_aa (by decide) (by decide:1<=65536) ?_)
 have hlen0:(bt (cI 0 steps 1)).length=rngN 0 steps 1:=by
  unfold cI
  rw[au,J6,J0I]
 apply GV (bt (cI 0 steps 1)) (λst'=>aS (.pv (.rng 0 steps 1)) st'=some (cI 0 steps 1)) (Gk scr size chain seq steps)
 case hvi=>exact λP' h=>dW hsm h
 case h0=>
  refine⟨0,λy=>[],t.dropLast.dropLast.dropLast.dropLast.dropLast,chain,seq,txg,1,1,[],[],[txg],none,none,_,Jb _,?_,rfl,?_⟩
  ·refine⟨⟨by exact z11 0x110102f01010102f702f8080402f8840e1102fb402f892481110803 b1.1 b1.2 hsize,⟨16+4*(Jh (aK t) 4).toNat,by exact z11 0x100001010000110102f0100100102f01014b102f894b0a170e1102fb402f89210803 b1.1 hsize fT⟩,by exact z02 0x1101010101c35005f801018040118923e73f81110803 b2.1 b2.2 hchain,by decide,rfl,?_,by decide,λb hb=>(by cases hb)⟩,l5,by exact z02 0x110108e4b3e73f89000118923e73f8112 b2.2 hchain,by exact z02 0x110101010108e4b3e63f8900008040123e73f81110803 b3.1 b3.2 hseq,by exact z02 0x110101010108e9890001804011892981110803 b5.1 b5.2 htxg,by decide,by decide,by decide,?_⟩
   ·intro b hb;rw[JQ hb];exact z02 0x1101010101f42405f80100804011892981110803 b5.1 b5.2 htxg
   ·intro b hb;rw[JQ hb];exact z02 0x110108e9890001189298112 b5.2 htxg
  ·rw[rX];rfl
 case turn=>
  rintro i x _ hx ⟨k,g,t,chain,seq,txg,p0,wr,gone,bs,births,x1,y1,_,hk,H,rfl,rfl⟩ K hK
  have hlt:=(J04 hx).1
  have hx:(bt ((JZ (rngN 0 steps 1)).map λj:Nat=>J3G (0+(j:Int)*1)))[i]? =some x:=hx
  rw[au,JR] at hx
  refine e1_2 (Jw hx) λj hj er0=> ?_
  obtain rfl:=er0
  have hjn:=(J04 hj).1
  rw[J0I] at hjn
  rw[J4q hjn] at hj
  obtain rfl:i=j:=JT hj
  have hi2:i<=2:=by
   unfold rngN J0X at hjn
   rw[JC (by decide),JC (by omega)] at hjn
   exact z15 0x100100000010001001010101110128083718082aa154d18493230921189238116 b4.2 hsteps hjn rfl fZ fT
  have m1:J32<=63:=by have:=H.t;rw[J0M];omega
  have m2:J3D<=63:=by rw[J0M];omega
  have c1:=bE (aK t) (k:=2) (by decide)
  have hk3:k=0∨k=1∨k=2:=by exact z20 0x1001111000011000110001100011001001100100280a180a5080a528181082 hk hi2
  obtain⟨txg',ht'⟩:∃c:Int,txg+Jh (aK t) 2=c:=⟨_,rfl⟩
  have hnx:=H.next
  have hp:=H.W.p
  have hsz:=JEm
  have hbl:=JFD
  have hgo:=H.gone
  have c2':=bE (aK J0J) (k:=2) (by decide)
  have m3:J1x<=63:=by rw[J0M];omega
  have hsm2:dY 0 (1+Jh (aK J0J) 2) 1=true:=Jq (by exact z01 0x1001001101011001003b9aca008f81801808143b9aca008f801890401893b9aca008f8d043b9aca008f80804083b9aca008f8d04280100802 c2'.1 c2'.2)
  obtain⟨cm,hcm⟩:∃cm:Nat,cm=rngN 0 (1+Jh (aK J0J) 2) 1:=⟨_,rfl⟩
  have hcm2:cm<=2:=by
   rw[hcm];unfold rngN J0X
   rw[JC (by decide),JC (by exact z01 0x11018908100801 c2'.1)];exact z04 0x100100000001001010101128080718081189aa132d18290228114 c2'.2 rfl fZ fT
  have hitl:(bt (cI 0 (1+Jh (aK J0J) 2) 1)).length=cm:=by
   unfold cI
   rw[au,J6,J0I,hcm]
  have hrl:(recsN cm J03).1.length=cm:=(iJ (room:=28) (by decide) cm J03).2.1
  have hfree:ez ((bp size chain p0 bs births wr).ws++[(bp size chain p0 bs births wr).a]) (bp size chain p0 bs births wr).blocks/\(bp size chain p0 bs births wr).blocks.length<=60000/\J6h<=60000/\(bp size chain p0 bs births wr).ws.length<=1000/\chain<chain+1+(0+(i:Int)*1)/\size<=1000/\(bp size chain p0 bs births wr).next.natAbs<100000:=by
   refine (cM xo ?_ (by exact z20 0x11282fea604f8081282fb0828182 hi2 hgo) ?_ (by exact z11 0x110ec08918199110) (by omega) ?_)
   ·show (cN size chain p0 bs births).length<=60000
    rw[wg];exact z20 0x114ea604f81809814b0828182 hi2 hbl
   ·rw[LP.wsl];exact z20 0x1143e83f80814b0828182 hi2 hbl
   ·show (p0+((J8+1:Nat):Int)*aq size).natAbs<100000
    exact z32 0x1000001010018110202f186a05f8094390f14b2827104f831182e98b39439043908028186 hi2 hnx.1 hnx.2 hp.2 hbl fA
  have hm3:∀(j:Nat),(recsN j J03).2.length<=63:=λj=>JJ (iJ (room:=28) (by decide) j J03).2.2 m3
  have hm4:=hm3 cm
  have hrc:=iJ H.room cm J03
  obtain⟨rs,hrs⟩:∃rs,(recsN cm J03).1=rs:=⟨_,rfl⟩
  rw[hrs] at hrc
  have hcm3:J5n<=2:=by rw[<- hrs,hrl];exact hcm2
  have hLc:=H.lcOk hi2 hrc.1 hcm3
  have hCo:wu size chain seq txg' (bp size chain p0 bs births wr) rs:=ht'▸H.comOk hi2 c1 hrc.1 hcm3
  have hCm:LP (i+1) (recsN cm J03).2 size chain _ txg' p0 gone _ _:=ht'▸H.commit hi2 hm4 c1 hrc.1 hcm3
  have h36:(size:Int) - 20 - 16=(size:Int) - 36:=by exact z10 0x11242f80ea102f8142f80eaa20
  have hput0:=λl=>rW (size:=size) (chain:=chain) (p0:=p0) (by omega) txg' l bs births wr H.W.bi
  obtain⟨kq,hkq⟩:∃kq,kq=k:=⟨k,rfl⟩
  rcases hk3 with rfl|rfl|rfl
  all_goals
   refine (i_aa (hrng _) rfl ⟨t,rfl,rfl,H.t,by decide,?_⟩)
   refine⟨rfl,J0h,rfl,rfl,m1,by decide,?_⟩
   rw[ht']
   by_cases h4:Jh (aK J0h) 5=4
   ·refine cw (by simp [h4]) ?_
    refine (i_aa ⟨_,rfl⟩ (bT 5 _ chain txg' rfl rfl rfl rfl) ?_)
    refine (dM rfl trivial rfl rfl rfl ⟨size,chain,(bp size chain p0 bs births wr).number,seq,(bp size chain p0 bs births wr).a,(bp size chain p0 bs births wr).ws,(bp size chain p0 bs births wr).blocks,gone,(bp size chain p0 bs births wr).next,(bp size chain p0 bs births wr).wr,_,txg',rfl,rfl,hfree,?_⟩)
    rw[show dm ((bp size chain p0 bs births wr).ws++[(bp size chain p0 bs births wr).a]) (bp size chain p0 bs births wr).blocks=[] from Ab]
    refine (ax (by decide) (by decide:1<=65536) rfl ?_)
    refine (i_aa rfl rfl (hK _ ⟨_+1,GO kq g ((bp size chain p0 bs births wr).ws.map Jv) ((bK bs).map .lst) (J35 .int),J0J,_,seq,txg',(bp size chain p0 bs births wr).next,(bp size chain p0 bs births wr).wr+1,_,[],[txg'],some (.pv (.int (0+(i:Int)*1))),y1,_,J2e hk,ht'▸H.anew (wr:=wr) hi2 m2 c1,rfl,?_⟩))
    rw[rX]
    subst hkq
    rfl
   ·refine bu (by simp [h4]) ?_
    apply DB c2 (none,none) (items:=bt (cI 0 (1+Jh (aK J0J) 2) 1)) (keep:=λst'=>aS (.pv (.rng 0 (1+Jh (aK J0J) 2) 1)) st'=some (cI 0 (1+Jh (aK J0J) 2) 1))
     (slf:=λj=>Ds kq g (recsN j J03).2 size chain seq (bp size chain p0 bs births wr) gone (bK bs) births) (out:=(recsN cm J03).1.map J6L)
    case hvi=>
     intro P' h
     subst hkq
     exact⟨rfl,J0J,rfl,rfl,m2,by decide,dW hsm2 h⟩
    case hl=>rw[hitl];exact JJ hcm2 (by decide)
    case ho=>rw[hitl,J6,hrl]
    case hk=>exact λy y=>JC hsm2
    case turn=>
     rintro j x p hx hp ⟨a1,a2⟩ R S hR
     have hj:=(J04 hx).1
     rw[hitl] at hj
     rw[JR,xb hj] at hp
     obtain rfl:(cV (recsN j J03).2).1.pv=p:=JT hp
     have hS:=lM j J03
     have hx:(bt (cI 0 (1+Jh (aK J0J) 2) 1))[j]? =some x:=hx
     unfold cI at hx
     rw[au,JR] at hx
     refine e1_2 (Jw hx) λjj y er1=> ?_
     clear hj hp hx
     obtain rfl:=er1
     subst hkq
     rw[hS] at hR
     exact⟨rfl,(recsN j J03).2,rfl,rfl,hm3 j,hR (_,_)⟩
    case fin=>
     rw[hitl]
     obtain⟨t4,ht4⟩:∃t4,(recsN cm J03).2=t4:=⟨_,rfl⟩
     rw[ht4] at hCm
     rw[hrs,ht4]
     subst hkq
     refine⟨rfl,seq,(size:Int) - 36,txg',rs,bK bs,births,rfl,rfl,hLc,?_⟩
     refine (ax rfl trivial rfl ⟨size,chain,seq,txg',gone,bp size chain p0 bs births wr,rs,rfl,rfl,hCo,?_⟩)
     rw[h36,xe (λp hp=>((lc hrc.1).1 p hp).2.2),Am]
     refine e1_1 (hput0 (lcom ((size:Int) - 36) seq (flat ((size:Int) - 36) rs)).fill) λwr' hput=> ?_
     rw[hput]
     rw[show bK bs++(lcom ((size:Int) - 36) seq (flat ((size:Int) - 36) rs)).fill.map (λb=>J52 cL)=bK (bs++(lcom ((size:Int) - 36) seq (flat ((size:Int) - 36) rs)).fill) from (by unfold bK;rw[Ji])]
     refine bu (by simp) ?_
     exact hK _ ⟨_,g,t4,chain,_,txg',p0,wr',gone,_,_,_,_,_,J39 hk,hCm,rfl,rfl⟩
 case fin=>
  have hlen:(bt (cI 0 steps 1)).length<=3:=by
   unfold cI rngN J0X
   rw[au,J6,J0I,JC (by decide),JC (by omega)]
   exact z05 0x1001000000000100101010110138080718082aa143d18390221189238115 b4.2 hsteps rfl fZ fT
  intro st2 h
  exact⟨hrng _,An scr hlen h⟩
inductive Gl (K:Frag) (c:Addr):Prop
 |mk oc od osl name params dV kV doc pm an ct (h1:J2F 618=some ⟨oc,od,.func (fnOf name "law" params (ay (aB 73)) (ao (aB 73)) dV kV doc pm an (.ref c) ct),osl⟩) (h2:JGG K (.ref c) "law"=true) (h3:∀(s:J1),JAC JG->∀v:Value,JEt s (fnOf name "law" params (ay (aB 73)) (ao (aB 73)) dV kV doc pm an (.ref c) ct) ⟨[v],[]⟩ [("script",v)])
structure DD (K:Frag) (c:Addr):Prop where
 ex:Gl K c
 hd:codeHdIn K c 615=true
 nt:noTabs K=true
def p8 (h:Heap) (c:Addr):Heap:=ghostOf h [(c,615)]
def Ex (h:Heap) (c L:Addr) (cs:List (Str×Addr)) (K:Frag):Fx:={ g:=p8 h c,L:=L,ca:=J75 (·.2),Lc:=none,ρ0:=[615],fz0:=λa o=>(p8 h c).get? a=some o,K:=K,hs:=[] }
def Ey (cs:List (Str×Addr)):Own:=λa=>if a=615 then .slot 0 else match kQ a (J75 (·.2)) with |some i=>.cell i|none=>.junk
def FV (scr:List Int):St:=⟨some (.pv (.lst (J6b .int)))::J0E 7 none,J0E 4 none,[],[.tab]⟩
theorem xx {w:World}{K:Frag}{c:Addr}{s:J1}{p:J3Z}{loose:List Str}{mean:ExcName->Option Value}{mg mb:Str->Option Value}(kok:KOk w K) (LI:DD K c) (KI:JAC JG) (hP:Jr 615=some (JAU #[])) (T:Top p loose mean mg mb JG)
  {l:Addr}{items:Array Value}{n:Nat}{scr:List Int}(hl:Jr l=some (bG items n)) (hi:∀fz,PRs fz (J6b J3G) J0P) (h63:J9S<=63):
  aC (model prog0 w) JBi (.call (.ref 618) ⟨[.ref l],[]⟩) (λr s'=>r=.ok (.ret (.bool true))/\OldK JG J7X/\s'.os=s.os/\JGs=s.gens) s:=by
 obtain⟨oc,od,osl,name,params,dV,kV,doc,pm,an,ct,hlk,hcd,hbind⟩:=LI.ex
 have CH:=codeHd_of_K KI LI.hd
 have hT:TabsAt [(c,615)] JG:=λq hq=>by rw[JQ hq];exact⟨CH,hP⟩
 have TG:=ghost_top hT T
 have KG:JAC (p8 JG c):=ghost_K hT KI LI.nt
 have CG:CodeHd (p8 JG c) c 615:=(ghost_code hT).1
 have lG:(p8 JG c).get? l=some (bG items n):=ghost_get hT hl (λq=>by cases q)
 have hD:=Gp
 have hcs (L:Addr):(cellsFrom (L+1) JFU []).map (·.1)=fB.cn:=(i5 _ _).trans hD.cn
 refine c8 (by decide+kernel) (KI _ _ hlk) rfl hD.co hD.gen rfl (JCn KI hcd) (av (hbind s KI (.ref l) _ _ _ _ (av (J93 J9v (λx hx=> ?_) λenv' he s' x=> ?_))))
 ·rw[JQ hx]
  exact .inl (by show JHQ ("script":Str) (ao (aB 73)).names=some .local;rw[J5b];exact J89 _ (hD.lk _ (J5U _)))
 subst he
 refine⟨T.nolimit.keeps J5j,i4 ?_⟩
 refine e2_2 x.done λh1a tk er0 y=> ?_
 obtain rfl:=er0
 have kp:=J5j
 generalize hL:JS=L' at *
 have hsz:(p8 JG c).objs.size=L':=(JGC _ _).trans hL
 have hlow:615<L':=hL▸Jo hP
 refine e1_2 (Cl.news (h₀:=JG) (J2z hL) λn c hm=>⟨x.cell n c (J6d (J8d (ao (aB 73)).names 0 (L'+1) [] [] rfl▸(by rw[J5b];rw[hD.cn];exact JGE)) hm),x.above n c hm⟩) λcells NC CA=> ?_
 have F:Fr (p8 JG c) L' h1a _:=⟨JFF,λb o e=>kp b o (J6F _ e),J2z hsz⟩
 have kind_:∀{x:Str}{kd:J1T},(x,kd)∈JFU->(J4R "law" (ao (aB 73)) L' 618 (.ref c)).kindOf x=some kd:=λ{x kd} z=>by
  show (ao (aB 73)).names.lookup x=_
  rw[J5b];exact J89 _ z
 refine e0_2 (gc JFU (L'+1) (L'+1) [] (Jb _) (λc hc=>by cases hc) J1B) λcsn csl=> ?_
 have CA:JFv (bindC (J4R "law" (ao (aB 73)) L' 618 (.ref c)).kindOf [("script",.ref l)] λy=>none) (cellsFrom (L'+1) JFU []) cells:=J5b▸CA
 have hcs:=hcs L'
 have hlk':∀{i:Nat}{x:Str}{c':Addr},(cellsFrom (L'+1) JFU [])[i]? =some (x,c')->(J4R "law" (ao (aB 73)) L' 618 (.ref c)).cells.lookup x=some c':=λ{i x c'} q=>by
  show (cellsFrom (L'+1) (ao (aB 73)).names []).lookup x=_
  rw[J5b];exact iQ (hcs▸JGE) q
 generalize hcs':cellsFrom (L'+1) JFU []=cs at *
 have R0:aA w fB (Ex JG c L' cs K)
   (FV scr) [] [] h1a (cells++[(615,JAU #[])])
   (Ey cs) [615] _:={
  fr:=F
  nw:=λp hp=>by
   rcases J08 hp with hp|hp
   ·refine (i_aa ((NC p hp).1) ((NC p hp).2.1) ?_)
    show (p8 JG c).get? p.1=none
    cases z:(p8 JG c).get? p.1 with
    |none=>rfl
    |some o=>have:=J6F _ z;rw[(NC p hp).2.2] at this;cases this
   ·rw[JQ hp]
    exact (i_aa (kp _ _ hP) (J0O hlow) (J5u _ (J5U _)))
  lo:=λi x e hx he=>by
   cases i with
   |zero=>
    cases he
    cases hx
    exact (az (.ref l) (o6 (names:=["script"]) (vals:=[.ref l]) (j:=0) (J1c ⟨J5f,J1B⟩) rfl rfl (kind_ (hD.lk _ (J5U _)))) (.pv (.lst (.inl lG) (hi _))))
   |succ i=>exact absurd he (pP 7 i e)
  ce:=λi c' hc=>by
   have hc:(J75 (·.2))[i]? =some c':=hc
   rw[JR] at hc
   refine e1_2 (Jw hc) λen1 q1 q2=> ?_
   obtain⟨x,c''⟩:=en1
   dsimp only at q2
   refine JGw▸?_
   refine e1_2 (JGh CA q1) λo z1 z2=> ?_
   have hgt:L'+1<=c'':=csl _ (J0n (J01 q1))
   refine (cD ?_ o _ (J06 _ z1) z2 (λe he=> ?_))
   ·have hne:¬c''=615:=J3c (JGQ hlow hgt)
    exact (JL hne).trans (by rw[pY csn (by rw[JR,q1];rfl)])
   ·exact absurd he (pP 4 i e)
  co:=λc hc=>by cases hc
  rho:=λi a so ha hs=>by
   rcases i with _|i
   ·cases ha;exact .inr (JC rfl)
   ·cases ha
  len:=rfl
  sl:=λi a so ha hs=>by
   rcases i with _|i
   ·cases ha;cases hs
    exact .tab (J0A _ (J5U _)) .nil
   ·cases ha
  pre:=J83 _
  tmp:=.nil
  held:=λp hp=>by cases hp
  hnd:=J1B }
 have BO:BOk w (Ex JG c L' cs K):=⟨KG,kok,⟨_,_,_,_,topRead_of TG⟩,λy y e=>e⟩
 have C:Cx w (callerA.deeper (J4R "law" (ao (aB 73)) L' 618 (.ref c))) (J4R "law" (ao (aB 73)) L' 618 (.ref c)) fB (Ex JG c L' cs K) 9:=by
  refine⟨BO,⟨⟨JBi,_,[],J4R "law" (ao (aB 73)) L' 618 (.ref c),below_caller _,rfl,rfl,J9v⟩,by show 1+claimMargin+1+3*9<900;decide+kernel,by show 4+3+20*9+300<cLine;decide+kernel,rfl⟩,hD.nm,J9v,J5b,rfl,rfl,rfl,λy=>rfl,λz=>(by cases z),?_,λy=>rfl,λy=> ?_⟩
  ·intro i x hx hm
   show ∃c,(J75 (·.2))[i]? =some c/\_
   rw[<- hcs,JR] at hx
   refine e1_2 (Jw hx) λen2 q1 q2=> ?_
   obtain⟨x',c'⟩:=en2
   dsimp only at q2
   refine JGw▸?_
   exact (az c' (by rw[JR,q1];rfl) (hlk' q1))
  ·refine e2_6 TG.bmain λbm ob a1 a2 a3 a4 a5 a6=> ?_
   exact (i_aa rfl (by show (("law":Str)++(".<locals>.":Str))=("law.<locals>.":Str);decide+kernel) (jC c 615 _ bm (ie ob rfl CG rfl (cM TG.g a1 a2 a3 a4 a5 a6))))
 refine ag (Dz.ok (by kernel_rfl) C ⟨_,_,_,_,R0⟩ (Ew scr h63) (s:={ s with heap:=h1a,toks:=tk }) (E:=λe s'=>ae (model prog0 w) _ (J5N (J4R "law" (ao (aB 73)) L' 618 (.ref c)) e) (λy y=>_) (λe' s''=>_) s')) (λf s' hf'=> ?_) λy y z=>z
 obtain⟨st',h',t',rfl,hf'⟩:=hf'
 cases f with
 |ret v=>
  refine e1_3 hf' λev HR er3 h0=> ?_
  clear hf'
  obtain rfl:=er3
  refine J9 HR λN own ρ m RW=> ?_
  have hv:v=.bool true:=by
   refine e0_2 RW.tmp.inv λh y=> ?_
   replace h:=h.pvI
   clear HR RW
   cases h;rfl
  refine hv.symm▸?_
  have h1:ρ[0]? =some 615:=e8 RW.pre 0 615 rfl
  have h2:=RW.sl 0 615 .tab h1 (by rw[<- aZ];exact h0)
  have hk:∀b o,b≠615->Jr b=some o->JW b=some o:=λb o hb e=>RW.fr.keep b o (ghost_ne e (λq=>hb (JQ q)))
  cases h2 with
  | @tab items' hm _=>
   have h3:=RW.nw.get hm
   refine (ax rfl ⟨λb o e=> ?_,λb o e=> ?_⟩ rfl rfl)
   ·by_cases hb:b=615
    ·subst hb
     rw[hP] at e
     cases e
     obtain⟨oc,vs,_,_,_,_,_,_,_,e1,e2,e3,e4,_⟩:=CH
     refine .inr (.inl (i_aa (f4 c oc vs e1 e2 e3 e4) rfl (eJ (#[]) items' rfl ?_)))
     rw[h3]
     simp
    ·exact .inl (hk b o hb e)
   ·by_cases hb:b=615
    ·subst hb;exact⟨_,h3⟩
    ·exact⟨o,hk b o hb e⟩
 |next=>exact hf'.2.elim
 |brk=>exact hf'.2.elim
 |cont=>exact hf'.2.elim
abbrev rO:RowW:=PySem.Challenge.rw_np0206_01.row.toRowW
theorem xd {R:J8C}{e:WCtx}(h:e.res=some (.bool true)):JAr R (.eq .res (.lit (.bool true))) e=true:=by
 unfold JAr
 rw[J8h,J8h,J8h,h]
 dsimp only
 rw[same]
 rfl
theorem law_good {q:J3Z}{loose:List Str}{XP:(Str->Option Value)->Heap->Prop}{w:World}{s0a s1a:J1}{mg mb:Str->Option Value}{args:List WData}{vs:List Value}{as:List Addr}{K:Frag}{c:Addr}
  (G:Ground q loose rO.records XP w s0a mg mb J46) (KI:JAC J46) (hP:∀P∈[615],JG0 P=some (JAU #[])) (kok:KOk w K) (LI:DD K c) (hn:nsIn K J0q rO.name=some (some (.ref 618)))
  (hpre:rO.claim.pre args=true) (L:Laid rO.records w s0a s1a args vs as):
  ∃f,mg rO.name=some f/\ae (model rO.prog w) JBi (JCv f vs) (λv s'=>JGf rO.claim (JEE J7R) (J7L J7R) args s1a (.ok (.ret v)) s') (λe s'=>JGf rO.claim (JEE J7R) (J7L J7R) args s1a (.error e) s') s1a:=by
 refine e1_2 (Da hpre) λscr er0 h63=> ?_
 clear hpre
 obtain rfl:=er0
 refine e1_2 L.laid λord z hlaid=> ?_
 refine e3_3 (xy hlaid) λl items n er1 hl hi=> ?_
 refine J0y▸?_
 refine (az _ (mg_of KI G.T.g hn) (bB (cX (xx kok LI KI (hP 615 (J5U _)) G.T hl hi h63) λr s' y=> ?_)))
 refine e0_4 y λer2 h1 h2 h3=> ?_
 clear y
 obtain rfl:=er2
 exact (ax (.inl (gD (.bool true) (.bool true) ([]) rfl (λz=>rfl) (.bool true) (J3f ⟨rfl,xd rfl⟩) (λz=>⟨J1B,λa ha=>by cases ha⟩))) h1 h2 (.of_eq (h3.trans L.gens)))
theorem all_of_map {α β:Type}{f g:α->β}{l:List α}(h:JE f=JE g):∀p∈l,f p=g p:=List.map_inj_left.mp h
theorem meth_all {K:Frag}(h:methT.map (λp=>(J3z K (.ref p.1) p.2.1,JC4 K (.ref p.2.2)))=methT.map (λp=>(some (some (.ref p.2.2)),some (.type "function")))):∀p∈methT,mO K p.1 p.2.1 p.2.2:=λp hp=>
 ⟨JD Prod.fst (J4a h p hp),JD Prod.snd (J4a h p hp)⟩
theorem cls_all {K:Frag}(h:clsT.map (λp:Addr×List Nat=>(J3z K (.ref p.1) "__getattribute__",J3z K (.ref p.1) "__getattr__",J3z K (.ref p.1) "__setattr__",plainOver K p.1,hasDictIn K p.1,
   p.2.map λk=>(J5R k J1L,JBI (ak k),J3z K (.ref p.1) (ak k))))=
  clsT.map (λp=>(some (some (.builtin "object.__getattribute__")),some none,some (some (.builtin "object.__setattr__")),true,true,p.2.map λk=>(true,false,some none)))):∀p∈clsT,jr K p.1 p.2:=λp hp=>
 have h:=J4a h p hp
 ⟨JD (λx=>x.1) h,JD (λx=>x.2.1) h,JD (λx=>x.2.2.1) h,JD (λx=>x.2.2.2.1) h,JD (λx=>x.2.2.2.2.1) h,λk hk=>
  have q:=J4a (JD (λx=>x.2.2.2.2.2) h) k hk
  (i_aa (Nat.blt_eq.mp (JD (λx=>x.1) q)) (JD (λx=>x.2.1) q) (JD (λx=>x.2.2) q))⟩
def fnO (o:Option Obj):JCT:=match o with
 |some ⟨_,_,.func fd,_⟩=>fd
 |_=>default
def fnF (K:Frag) (r:kH):JCT:=fnOf (fnO (J2F r.a)).name JDm (fnO (J2F r.a)).params (ay JCe) (ao JCe) (fnO (J2F r.a)).defaults (fnO (J2F r.a)).kwdefaults (fnO (J2F r.a)).doc (fnO (J2F r.a)).pyModule (fnO (J2F r.a)).annotations (fnO (J2F r.a)).code (fnO (J2F r.a)).closureTuple
abbrev Bn:=J1M (List (Str×Value))
def Cu (k:Nat):Type:=J64 Bn (λ_ T=>Value->T) k
def cu (k:Nat):(List Value->Bn)->Cu k:=J64 (motive:=λk=>(List Value->Bn)->Cu k) (λF=>F []) (λ_ ih F a=>ih λl=>F (a::l)) k
theorem EG (k:Nat):∀{F G:List Value->Bn},cu k F=cu k G->∀ws:List Value,Jx=k->F ws=G ws:=by
 induction k with
 |zero=>exact λh ws e=>J0x e▸h
 |succ k ih=>
  intro F G h ws e
  cases ws with
  |nil=>cases e
  |cons a ws=>exact ih (F:=λl=>F (a::l)) (G:=λl=>G (a::l)) (congrFun h a) ws (J3b e)
def fnP (K:Frag) (r:kH):Bool:=match (fnO (J2F r.a)).defaults with
 | .none=>true
 |_=>false
def fnG (K:Frag) (r:kH) (ws:List Value):Bn:=JCK (fnF K r) ⟨ws,[]⟩
def fnH (r:kH) (ws:List Value):Bn:=pure (r.names.zip (ws++r.dfl))
def fnS (K:Frag) (r:kH) (F:List Value->Bn):(k:Nat)×Cu k:=cond (fnP K r) ⟨r.k,cu r.k F⟩ ⟨0,pure []⟩
def fnI (i:Nat):kH:=fnT.getD i ⟨0,0,[],[],"",none⟩
def fnK (K:Frag) (r:kH):Prop:=nh K r.a r.k JGt r.dfl JDm (ay JCe) (ao JCe)
theorem fn_all {K:Frag}(D:List Nat) (h1:J9w (λr=>J2F r.a)=J9w λr=>some { (J2F r.a).getD default with data:=.func (fnF K r) })
  (h2:J9w (λr=>JGG K (fnF K r).code JDm)=J9w λ_=>true) (h3:J9w (λr=>fnS K r (fnG K r))=J9w λr=>fnS K r (fnH r))
  (h4:(JZ fnT.length).map (λi=>fnP K (fnI i)||D.contains i)=(JZ fnT.length).map λ_=>true) (h5:∀i∈D,fnK K (fnI i)):
  ∀r∈fnT,nh K r.a r.k JGt r.dfl JDm (ay JCe) (ao JCe):=λr hr=>by
 cases hp:fnP K r with
 |true=>
  have e3:=J4a h3 r hr
  unfold fnS at e3
  rw[hp] at e3
  exact⟨_,_,_,_,_,_,_,_,_,_,_,_,J4a h1 r hr,J4a h2 r hr,λs hK ws e=>.of_eq (EG _ (eq_of_heq (Sigma.mk.inj e3).2) ws e)⟩
 |false=>
  obtain⟨i,hi,rfl⟩:=List.mem_iff_getElem.mp hr
  have e:fnI i=fnT[i]:=by unfold fnI;simp [hi]
  have q:=J4a h4 i (J50 hi)
  rw[e,hp] at q
  exact e▸h5 i (List.contains_iff_mem.mp q)
def G9 (k:Nat):(List Value->Prop)->Prop:=J64 (motive:=λ_=>(List Value->Prop)->Prop) (λP=>P []) (λ_ ih P=>∀a,ih λl=>P (a::l)) k
theorem wsN {k:Nat}:∀{P:List Value->Prop},G9 k P->∀ws:List Value,Jx=k->P ws:=by
 induction k with
 |zero=>exact λh ws e=>J0x e▸h
 |succ k ih=>
  intro P h ws e
  cases ws with
  |nil=>cases e
  |cons a ws=>exact ih (P:=λl=>P (a::l)) (h a) ws (J3b e)
end Internal
end
end
section
local macro_rules (kind:=Lean.Parser.Command.universe)|s=>pure (Internal.zUn s)
set_option Elab.async true
set_option tactic.hygienic true
open PySem PySem.W PyProof.Rows
set_option maxRecDepth 100000
set_option maxHeartbeats 0
namespace Mine
open Internal
theorem PySem.W.holds_open:type_of% @hoPn:=@hoPn
universe hdB.tw11554528542664965147 hdB.tw5184949627967265341 hdB.tw3567634236567836191 hdB.tw5536256911283812141 hdB.tw3953746042387103087 hdB.tw8086001066098663843 hdB.tw10985906420413782716 hdB.tw13788924720812577390 hdB.tw5443643315066062852 hdB.tw10373542585454810294 hdB.tw7821331156527011559 hdB.tw1180997611525770237 hdB.tw3920183671248745800 hdB.tw655182792556318349 hdB.tw8825484905173009530 hdB.tw3333075746331819839 hdB.tw17267448757400909862 hdB.tw7096195423682732449 hdB.tw6368202073434933861 hdB.tw7573447453281709947 hdB.tw12120035862186282598 hdB.tw242226426869937577 hdB.tw5988976882591568586 hdB.tw12512459187834983698 hdB.tw4683823732496863127 hdB.tw9582267612733671975 hdB.tw13408679725687374472 hdB.tw3014761482063366610 hdB.tw2303989974786899086 hdB.tw7482460364270962437 hdB.tw12121465228893195976 hdB.tw15895981168002104966 hdB.tw2623596306161115307 hdB.tw14600167800030803978 hdB.tw16506839931896993010 hdB.tw8306444185847140569 hdB.tw17395290345681325371 hdB.tw668618408895024685 hdB.tw3650052124063349327 hdB.tw3545495495465134804 hdB.tw7667574777284888042 hdB.tw9779097052493789642 hdB.tw5299724198179525155 hdB.tw2665809999045362088 hdB.tw17031548807823752945 hdB.tw5691277127284188092 hdB.tw11713390208890728763 hdB.tw1873740539734212566 hdB.tw7492309392156930401 hdB.tw14433079359930636323 hdB.tw5960292574260180298 hdB.tw8835093717523172634 hdB.tw342761422158820985 hdB.tw12968723675713867762 hdB.tw14893821678034898654 hdB.tw7787536664352738079 hdB.tw14196197153133398576 hdB.tw5991147879136639837 hdB.tw14987509475761357246 hdB.tw16433381706587262438 hdB.tw5918891520800706572 hdB.tw5233074513524782149 hdB.tw3268217366877557047 hdB.tw13575435483514665407 hdB.tw11974173315731812697 hdB.tw2215552600814529729 hdB.tw9974559758790987437 hdB.tw14441984502611596235 hdB.tw9789576867421089619 hdB.tw13125912538608747775 hdB.tw585818438832230338 hdB.tw16695686127522390839 hdB.tw16962385443597234517 hdB.tw7442542695999097541 hdB.tw10925604703942642693 hdB.tw299938981094323616 hdB.tw3164886504659311240 hdB.tw4545316125209686589 hdB.tw10257095684667309853 hdB.tw13124407578016303829 hdB.tw304498082078896603 hdB.tw11875083327617489020 hdB.tw7719808077391009046 hdB.tw11482827068820897443 hdB.tw16996300673914094760 hdB.tw8712251602629276522 hdB.tw494529445652186260 hdB.tw7959847945887090583 hdB.tw13669759399153914181 hdB.tw13820951910118067618 hdB.tw18307307550281649757 hdB.tw16916819751288464985 hdB.tw13983089911524847127 hdB.tw9072957568876009247 hdB.tw22461193921973809 hdB.tw3062318533441013502 hdB.tw2241756891401100466 hdB.tw14667356352870707748 hdB.tw11795842734721691587 hdB.tw5000530689508017905 hdB.tw8087705182139727511 hdB.tw13325991531994394699 hdB.tw6243520292303532346 hdB.tw9026251335127909631 hdB.tw6656644580461239143 hdB.tw2893601867376165715 hdB.tw3757706975819446724 hdB.tw4699233967958636080 hdB.tw9639923127135739284 hdB.tw475963668462022829 hdB.tw622283817711283293 hdB.tw9912726394649717256 hdB.tw4308492268645525282 hdB.tw13041997304073740761 hdB.tw1166161374489413734 hdB.tw3587132461953034196 hdB.tw11018720170402240100 hdB.tw4464356007538647085 hdB.tw13646608788259542666 hdB.tw9132751067300547923 hdB.tw12357937096795816881 hdB.tw11183744455006915406 hdB.tw8221002097911182093 hdB.tw13860784589476825658 hdB.tw16596145783768507322 hdB.tw2413006937299057871 hdB.tw14669200372213356858 hdB.tw6752853805199799941 hdB.tw11933049503907617928 hdB.tw5672518587710906203 hdB.tw7800180489568050233 hdB.tw14770133251633014079 hdB.tw17187605485511430966 hdB.tw7442846925928208999 hdB.tw5531940682735581251 hdB.tw9012740236748724142 hdB.tw6293507303665906399 hdB.tw7543728327453514637 hdB.tw1937859905759843691 hdB.tw17406437000009256231 hdB.tw11659693942920300766 hdB.tw1539697429902737060 hdB.tw11251232922310293901 hdB.tw13746921442394327067 hdB.tw12411266553603689898 hdB.tw5125508512252173286 hdB.tw16412120454687595198 hdB.tw4785538261178990906 hdB.tw12943422199940531356 hdB.tw3458390905309759915 hdB.tw9923031971051137409 hdB.tw9675038262582241039 hdB.tw4068126273212173685 hdB.tw14277901321959936047 hdB.tw2362126760149829728 hdB.tw16130361550949837719 hdB.tw3090126034162578670 hdB.tw10988113558143455345 hdB.tw8877306631261723523 hdB.tw7452225190485794004 hdB.tw1575164312096275578 hdB.tw469471460557195721 hdB.tw10980803861594726508 hdB.tw10108678295390518827 hdB.tw3152688966344297781 hdB.tw13121962541816492047 hdB.tw165730524252347063 hdB.tw11860812322045798456 hdB.tw10938639646612423494 hdB.tw7908247825645380647 hdB.tw4777152090539660499 hdB.tw15999574214134171944 hdB.tw5070455690469752974 hdB.tw18206664062352576257 hdB.tw3498705600851153900 hdB.tw15149662732187716555 hdB.tw12681949577004213729 hdB.tw286864837657412344 hdB.tw16204950829030366751 hdB.tw1419279130614576131 hdB.tw1501264854544530234 hdB.tw8318741309788410075 hdB.tw3280270315929798061 hdB.tw6125527830020129477 hdB.tw17701843012588335916 hdB.tw1580486368215317366 hdB.tw5406507627487558184 hdB.tw12966587956464772272 hdB.tw1417881313692008205 hdB.tw11340856869848468104 hdB.tw10642989400151223516 hdB.tw3784853112248107823 hdB.tw16473578340278991833 hdB.tw10441261176214844751 hdB.tw6195116172494405456 hdB.tw11494917561926105016 hdB.tw15042513507143542731 hdB.tw1158832275023106724 hdB.tw9750752736118853896 hdB.tw270889976600660389 hdB.tw7681256432193613564 hdB.tw17697541003869173353 hdB.tw1876119605214829474 hdB.tw14988538935665105114 hdB.tw7551803222299772709 hdB.tw3544564916812182217 hdB.tw16414223228341086277 hdB.tw1237005199619836052 hdB.tw1077975695720109095 hdB.tw2115914459495906447 hdB.tw7930358113307292092 hdB.tw10060322204140854051 hdB.tw11595376594288628323 hdB.tw1183309468218784493 hdB.tw1567674862446675252 hdB.tw11224744963066051376 hdB.tw2481013044295023079 hdB.tw4715909564279490599 hdB.tw3603738225273405624 hdB.tw15887240215341387625 hdB.tw3904938576223520078 hdB.tw783666601761790105 hdB.tw11961221387738270199 hdB.tw13457857228918000261 hdB.tw11307043770219764856 hdB.tw15026010971645241629 hdB.tw16922653593300399963 hdB.tw13332723376058594703 hdB.tw4234321278676407612 hdB.tw16666466659796176550 hdB.tw17300909421566774829 hdB.tw3000104907036439879 hdB.tw2331907586438766800 hdB.tw17462069604643317081 hdB.tw4924454606748983692 hdB.tw10760143088824274230 hdB.tw4038018153909211241 hdB.tw7813410641628327166 hdB.tw8607639659678348245 hdB.tw10743634579177516747 hdB.tw9321797967126215720 hdB.tw8588139144424366184 hdB.tw1089165497621417841 hdB.tw7204547217194494032 hdB.tw1907717185123728532 hdB.tw14354397638842592926 hdB.tw10597516979169754136 hdB.tw5707650628119915864 hdB.tw3059270928186270834 hdB.tw9030146355110135838 hdB.tw16746263990297221009 hdB.tw8786120591566911040 hdB.tw6473043463524790918 hdB.tw9862035936058736964 hdB.tw8373230726180981414 hdB.tw18169167528460811145 hdB.tw7589435479087505696 hdB.tw11674153074825473853 hdB.tw18403747974622381899 hdB.tw9945731310052136310 hdB.tw15598725036906452976 hdB.tw2831461591821254551 hdB.tw17079801678903252499 hdB.tw15587482639380473116 hdB.tw5836973686768349771 hdB.tw5294727170814061392 hdB.tw3478187454854146901 hdB.tw3376061876353901447 hdB.tw2611353022239412291 hdB.tw16492688624562606622 hdB.tw9698176940208072819 hdB.tw10022493443994453556 hdB.tw14800520555378786896 hdB.tw14623064324234582753 hdB.tw6879032481690537158 hdB.tw8237880670428848811 hdB.tw5870520432641999468 hdB.tw7459707963837674275 hdB.tw17123866650101628069 hdB.tw10468598853506537525 hdB.tw9661661932407659788 hdB.tw1624202427199547862 hdB.tw2424918535888130946 hdB.tw7204814222319714411 hdB.tw5691252290610882572 hdB.tw10388381751457000505 hdB.tw13850915017072885212 hdB.tw17980884356242558667 hdB.tw3393366912827472378 hdB.tw18082905319161326637 hdB.tw12945742787389048372 hdB.tw4060660509361364730 hdB.tw16827805947678527737 hdB.tw5863978013424164928 hdB.tw7329510117804050733 hdB.tw6459092502424417849 hdB.tw6011689294237824266 hdB.tw2548174382296708833 hdB.tw9085691612890244518 hdB.tw8095688435998659605 hdB.tw8410189745787444058 hdB.tw7552392614664433841 hdB.tw14496876250492689157 hdB.tw91677128960898835 hdB.tw10624645019109523394 hdB.tw4245343567101900450 hdB.tw11726930031142234306 hdB.tw6242877800520114238 hdB.tw11667316392302764206 hdB.tw7370903057073754117 hdB.tw7554889739185199633 hdB.tw12801546405956620371 hdB.tw15221339949622065445 hdB.tw18069323583982487666 hdB.tw2789741033033442564 hdB.tw11472156807468514366 hdB.tw4265584429408553258 hdB.tw619201577190429196 hdB.tw12444223854334616779 hdB.tw8309980984851926908 hdB.tw3121427921150283421 hdB.tw17900398159134317328 hdB.tw13545014690401975451 hdB.tw4346864117186326196 hdB.tw8028213699200017757 hdB.tw17666534235357057668 hdB.tw4510443462975947490 hdB.tw5446816296623458443 hdB.tw16918409934038388707 hdB.tw10677360557158328225 hdB.tw1604588686608469542 hdB.tw17472374619186744605 hdB.tw3682958360469743793 hdB.tw13616919266760702678 hdB.tw11325272670927728529 hdB.tw5281478395406821698 hdB.tw6408381128823002398 hdB.tw7559666763972078897 hdB.tw12390307180394536303 hdB.tw10722789334407796569 hdB.tw1778474635532345279 hdB.tw3824508104138655170 hdB.tw8481956533258568393 hdB.tw13954936913261611606 hdB.tw12459982240640925766 hdB.tw1895142442474255442 hdB.tw14419399186051658582 hdB.tw2848180054069306803 hdB.tw17171009779497984607 hdB.tw5017504152654544039 hdB.tw12685412991271914319 hdB.tw6111648280275816736 hdB.tw15998015763775790799 hdB.tw8552204545470072017 hdB.tw13284344789964939550 hdB.tw18319779080801479596 hdB.tw791999467782746870 hdB.tw4081896430911680687 hdB.tw12265012450880191093 hdB.tw2985657244198069386 hdB.tw7329408862107329699 hdB.tw3566412163898373981 hdB.tw1481971511473364102 hdB.tw16941374662749536870 hdB.tw13632635975726206561 hdB.tw11815558246535343706 hdB.tw13353981244525998768 hdB.tw7095372591342616948 hdB.tw5046426319620708743 hdB.tw13673512206823028918 hdB.tw14468032189948372016 hdB.tw4395254294479858703 hdB.tw14692339697486733929 hdB.tw14869531685949068814 hdB.tw13650668767990266152 hdB.tw134628947866555967 hdB.tw594502157681275256 hdB.tw10866005096071933182 hdB.tw16350906121740880491 hdB.tw12206338054501810692 hdB.tw17609187667027915483 hdB.tw14991395153533383109 hdB.tw4967869514264762311 hdB.tw1943324981752363096 hdB.tw5266838516435246141 hdB.tw3304511610589890399 hdB.tw10591610403564094379 hdB.tw16354744161430265965 hdB.tw11178301008774375505 hdB.tw16036725086540228142 hdB.tw3476577946124217138 hdB.tw11636076456536291676 hdB.tw12351255435464108759 hdB.tw2954915873864698198 hdB.tw3899013711103537869 hdB.tw4170065923251120657 hdB.tw387065550045987659 hdB.tw16488871959856481471 hdB.tw168526267422361723 hdB.tw5489650333153917366 hdB.tw14876197665731765544 hdB.tw16421967807827199177 hdB.tw8441798609470833001 hdB.tw13727409396599668426 hdB.tw15692414882686858021 hdB.tw981913908648388671 hdB.tw240424837273455631 hdB.tw9953882558772560754 hdB.tw2508201458456058578 hdB.tw3734748650182733094 hdB.tw96543187668047502 hdB.tw7223526953627285538 hdB.tw8191645495087821125 hdB.tw13081076175499913460 hdB.tw8384112238112570022 hdB.tw11680132565139094119 hdB.tw10564106306941357646 hdB.tw6373843623025555915 hdB.tw8799671797039284050 hdB.tw720689436315891801 hdB.tw4009856572602423892 hdB.tw16377757379332357049 hdB.tw8845442697956235493 hdB.tw5847151782237450365 hdB.tw682091708474766446 hdB.tw7436724688407103429 hdB.tw9082078257866348712 hdB.tw18109030573209504455 hdB.tw7523516978520037582 hdB.tw17047190971544547498 hdB.tw17674987870521649420 hdB.tw12472836561579236130 hdB.tw11214597614550243593 hdB.tw7940194487319868815 hdB.tw8025886064268435494 hdB.tw4791339117591229919 hdB.tw5048444195464393353 hdB.tw3030106975742081472 hdB.tw10896129618786280053 hdB.tw5953969055008437704 hdB.tw10122038535034852899 hdB.tw10500252777688787156 hdB.tw16997056249756387625 hdB.tw6970364773529616467 hdB.tw7676403368618499899 hdB.tw14808100342969755220 hdB.tw8696988444308360218 hdB.tw11020026133783444083 hdB.tw3966424089453082575 hdB.tw14420112176246303978 hdB.tw470303381046504887 hdB.tw7297625631817721215 hdB.tw7038678049635591111 hdB.tw11184113148176895768 hdB.tw7282580955003439477 hdB.tw12696608080262205192 hdB.tw10337459275004035420 hdB.tw492492282773002185 hdB.tw10846752927160089210 hdB.tw12487631459380240553 hdB.tw16800492414846272916 hdB.tw8564767040025779516 hdB.tw5162896999475180960 hdB.tw14068106846996055692 hdB.tw8357848566282084377 hdB.tw12897870276625455991 hdB.tw6678111820445761401 hdB.tw9236426176275505474 hdB.tw10659557570115645533 hdB.tw2201145042264276131 hdB.tw10337546527440214291 hdB.tw6754631618693989580 hdB.tw13359232831423125206 hdB.tw1117236269706048856 hdB.tw4896652085840369046 hdB.tw15039698750832274017 hdB.tw17377620843044610844 hdB.tw82733275311979378 hdB.tw6882939437623280565 hdB.tw5608524710857020919 hdB.tw13175114098249543397 hdB.tw7266983341144783409 hdB.tw8814610853995632618 hdB.tw17210484955517695428 hdB.tw11296636070527034274 hdB.tw10297240610118110913 hdB.tw13970814353881476035 hdB.tw13421337203784878188 hdB.tw14236530294422283900 hdB.tw5212806565036500591 hdB.tw11933645823338073336 hdB.tw7576690905377256428 hdB.tw16257637437382887668 hdB.tw13217441245009024821 hdB.tw3295448132282747532 hdB.tw12749813898533818175 hdB.tw2848056539902326636 hdB.tw7209759437159997501 hdB.tw429837847446832234 hdB.tw8131092359889462156 hdB.tw2442163973523392638 hdB.tw6269134569299412782 hdB.tw17562721627828161169 hdB.tw6730435261167549585 hdB.tw10307350567725656123 hdB.tw6536962184675341995 hdB.tw12654185650741343667 hdB.tw12555892037645455305 hdB.tw12004290213830318372 hdB.tw4987366480647570960 hdB.tw16842207455543367420 hdB.tw8166725304363817857 hdB.tw169401555841166859 hdB.tw13141891189715676290 hdB.tw2184959090338958156 hdB.tw16759259888418857026 hdB.tw15350950590689632322 hdB.tw13938864372151246667 hdB.tw13666478384150006547 hdB.tw1393907342520805318 hdB.tw17429376801974289189 hdB.tw3687989244648305856 hdB.tw15911082643983503660 hdB.tw12821702077017125785 hdB.tw564421548585054558 hdB.tw5693732006539243449 hdB.tw429014850541975092 hdB.tw2372702774251599007 hdB.tw651124529688715982 hdB.tw5587731341446346607 hdB.tw4420651534285528108 hdB.tw6413035107479245678 hdB.tw14998645699000935329 hdB.tw4397423679220121712 hdB.tw1733343713712780342 hdB.tw8945988725222144165 hdB.tw16534755379847859287 hdB.tw5819189001055292070 hdB.tw4612983599011166641 hdB.tw605705598431006433 hdB.tw4997005998663214776 hdB.tw1986595578177647475 hdB.tw12476908706044290878 hdB.tw6549052726310263592 hdB.tw12707543306421425798 hdB.tw15853777976638579679 hdB.tw1972759384961486731 hdB.tw2645695988977503441 hdB.tw7298993710392231658 hdB.tw3432589381234307328 hdB.tw7641691787540584547 hdB.tw3185342699019437079 hdB.tw9076310094158452876 hdB.tw2891581428972788256 hdB.tw5137766571334806463 hdB.tw9667606896861302818 hdB.tw6435024659882922718 hdB.tw11404497032303267387 hdB.tw18265380598997616279 hdB.tw5811045338607079808 hdB.tw16439143029911188170 hdB.tw12238290317205566727 hdB.tw9688270614764394582 hdB.tw1003610086628192538 hdB.tw4018439363101230499 hdB.tw229294656457795788 hdB.tw12114421149688805392 hdB.tw9689945664770481996 hdB.tw10690899110928446926 hdB.tw1401062199950177088 hdB.tw7623491627983602615 hdB.tw14762819619002470717 hdB.tw4049763070429044022 hdB.tw3614981238973869419 hdB.tw6405352750367309641 hdB.tw1096611118462850221
theorem hdB:PySem.Challenge.rw_np0206_01.Holds:=by
 (w_on;o_law;k_head;(case hw=>w_witness2))
 case hc=>
  intro w s₀ s₁ mg mb G Y args vs as hpre hlay L
  refine law_good (c:=617) G (km_in_of Y) (km_tabs_of Y) ?kok ?li (by kernel_rfl) hpre L
  case li=>exact⟨⟨_,_,_,_,_,_,_,_,_,_,_,rfl,by kernel_rfl,fun s hK v=>.of_eq rfl⟩,by kernel_rfl,by kernel_rfl⟩
  case kok=>
   refine⟨all_of_map (f:=fun p:Str×Value=>nsIn (hdB.heap_1_39 w.params) mainGlobals p.1) (g:=fun p=>some (some p.2)) (by kernel_rfl),all_of_map (f:=fun x:Str=>nsIn (hdB.heap_1_39 w.params) mainGlobals x) (g:=fun _=>some none) (by kernel_rfl),all_of_map (f:=fun x:Addr=>keepIn (hdB.heap_1_39 w.params) (.ref x)) (g:=fun _=>true) (by kernel_rfl),
    cls_all (by kernel_rfl),meth_all (by kernel_rfl),all_of_map (f:=fun x:Addr=>makesIn (hdB.heap_1_39 w.params) x) (g:=fun _=>true) (by kernel_rfl),⟨⟨_,_,_,_,_,_,_,_,_,_,_,_,_,_,rfl⟩,by kernel_rfl,by kernel_rfl,by kernel_rfl,by kernel_rfl,by kernel_rfl⟩,?_⟩
   refine fn_all [10,11,27,28,29,36,37,50,51,52,53] (by kernel_rfl) (by kernel_rfl) (by kernel_rfl) (by kernel_rfl) ?_
   refine allC (.of rfl (by kernel_rfl) fun s hK=>wsN fun a0 a1 a2=>binds_K hK rfl rfl rfl rfl rfl) ?_
   refine allC (.of rfl (by kernel_rfl) fun s hK=>wsN fun a0 a1=>binds_K hK rfl rfl rfl rfl rfl) ?_
   refine allC (.of rfl (by kernel_rfl) fun s hK=>wsN fun a0 a1 a2 a3 a4=>binds_K hK rfl rfl rfl rfl rfl) ?_
   refine allC (.of rfl (by kernel_rfl) fun s hK=>wsN fun a0 a1 a2=>binds_K hK rfl rfl rfl rfl rfl) ?_
   refine allC (.of rfl (by kernel_rfl) fun s hK=>wsN fun a0 a1 a2 a3 a4 a5 a6 a7 a8 a9 a10 a11=>binds_K hK rfl rfl rfl rfl rfl) ?_
   refine allC (.of rfl (by kernel_rfl) fun s hK=>wsN fun a0 a1 a2 a3 a4 a5=>binds_K hK rfl rfl rfl rfl rfl) ?_
   refine allC (.of rfl (by kernel_rfl) fun s hK=>wsN fun a0 a1 a2 a3 a4=>binds_K hK rfl rfl rfl rfl rfl) ?_
   refine allC (.of rfl (by kernel_rfl) fun s hK=>wsN fun a0 a1=>binds_K hK rfl rfl rfl rfl rfl) ?_
   refine allC (.of rfl (by kernel_rfl) fun s hK=>wsN fun a0=>binds_K hK rfl rfl rfl rfl rfl) ?_
   refine allC (.of rfl (by kernel_rfl) fun s hK=>wsN fun a0 a1 a2 a3 a4 a5 a6 a7=>binds_K hK rfl rfl rfl rfl rfl) ?_
   refine allC (.of rfl (by kernel_rfl) fun s hK=>wsN fun a0 a1 a2 a3 a4 a5 a6=>binds_K hK rfl rfl rfl rfl rfl) ?_
   exact allN
end Mine
end
theorem PySem.Challenge.cw_np0206_01_holds : PySem.Challenge.rw_np0206_01.Holds :=
  Mine.hdB
