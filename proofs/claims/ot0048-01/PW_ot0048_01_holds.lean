import PyProof.Rows.All
import Wide.All
import OpenK.AllK
import Wide.FinOn
import KE.KDictLaws
import KE.KDictOf
import KE.KDictList
import KE.KLam
import KE.KDictSum
import Lean
import PySem.Challenge.RW_ot0048_01
set_option linter.unusedVariables false
set_option Elab.async false
set_option genInjectivity false
set_option genSizeOf false
set_option bootstrap.genMatcherCode false
set_option genCtorIdx false
section
set_option compiler.extract_closed false
set_option compiler.reuse false
set_option backward.match.sparseCases false
namespace Mine.Internal
open Lean in
 def yP (s:Syntax):List Char→Syntax
 |c::l=>yP s[c.toNat-48] l
 |_=>s
open Lean in
 def yD (s:Syntax):String:=if s.isAtom then s.getAtomVal else toString s.getNumArgs
open Lean in
 def yQ (f:Syntax→List Syntax→List Syntax):List Syntax→List Syntax→List Syntax
 |s::l,x=>yQ f l (if s.isAtom then x else f s x)
 |_,x=>x
 def yM {α β:Type} (f:α→β):List α→List β
 |x::l=>f x::yM f l
 |_=>[]
 def yR:List (List String):=yM (fun r=>r.splitOn " ") (((((("$\n( ( !( $ !) )~rcasesPat.paren )~rintroPat.one\n( !first ( {w ( ^011 ( !? !_ )Lean.Parser.Term.syntheticHole )null} ( !| ( ( ( ( !refine ( =Mine.Internal.rw ( $1 ( !? !_ )Lean.Parser.Term.syntheticHole )null} ( !| ( ( ( ( !rewrite ( ( )null )~optConfig ( ![ ( $ )null !] )~rwRuleSeq ( )null )~rewriteSeq` )group )null )~first !;\n~obtain $10001 ?10000 ⟨ ?2 0 ( !first ( ( !| ( ( ( ( !( ( ( ( ( !first ( {e5n ( $310 ( !? !_ )Lean.Parser.Term.syntheticHole )null} {e4n ( $310 ( !? !_ )Lean.Parser.Term.syntheticHole )null} {e3n ( $310 ( !? !_ )Lean.Parser.Term.syntheticHole )null} {e2n ( $310 ( !? !_ )Lean.Parser.Term.syntheticHole )null} {e1n ( $310 ( !? !_ )Lean.Parser.Term.syntheticHole )null} {e0n ( $310 ( !? !_ )Lean.Parser.Term.syntheticHole )null} )null )~first !; ( !try ( ( ( ( !clear ( $310 )null )~clear` )~tacticTry_ !; ( !rintro ( ^110001 )null ( )null )~rintro` !) )~paren` )group ( !| ( ( ( $` )group )null )~first\n~exact $11 ?10 ⟨ ( !first ( {i5n ( ^011 )null} {i4n ( ^011 )null} {i3n ( ^011 )null} {i2n ( ^011 )null} {i1n ( ^011 )null} ( !| ( ( ( $` )group )null )~first\n~refine $11 ?10 ⟨ ( !first ( {i5n ( ^011 )null} {i4n ( ^011 )null} {i3n ( ^011 )null} {i2n ( ^011 )null} {i1n ( ^011 )null} ( !| ( ( ( $` )group )null )~first\n~rwSeq $9 ?3 0 ( !( ( ( ( ^221 ( !try ( ( ( ( !with_reducible ( ( ( ( !rfl )~tacticRfl` )~withReducible` )~tacticTry_` !) )~paren\n~cases $9 ?2 2 ( !induction $1 $2 ( )null $3 )~induction\n~show $9 ( !refine ( ( !( ( # )hygieneInfo )Lean.Parser.Term.hygienicLParen ( !? !_ )Lean.Parser.Term.syntheticHole !: ( $1 )null !) )Lean.Parser.Term.typeAscription )~refine\n~change $9 ?2 0 ( !refine ( ( !( ( # )hygieneInfo )Lean.Parser.Term.hygienicLParen ( !? !_ )Lean.Parser.Term.syntheticHole !: ( $1 )null !) )Lean.Parser.Term.typeAscription )~refine\n~symm $9 ( !refine ( #Mine.Internal.viaC ( ( !fun ( ( #zC #zk )null ( )null !=> ( !? !_ )Lean.Parser.Term.syntheticHole )Lean.Parser.Term.basicFun )Lean.Parser.Term.fun )null )Lean.Parser.Term.app )~refine\nLean.Elab.Tactic.Ext.ext $9 ( !( ( ( ( ( !refine ( #zk ( ( !? !_ )Lean.Parser.Term.syntheticHole )null )Lean.Parser.Term.app )~refine !; ( !clear ( #zk #zC )null )~clear` !) )~paren\nLean.Parser.Command.declaration $9 ?10 def ( ( $00 $01 $02 $03 ( ( !noncomputable )Lean.Parser.Command.noncomputable )null $05 $06 )Lean.Parser.Command.declModifiers $1 )Lean.Parser.Command.declaration".replace "{" "( !| ( ( ( ( !refine ( %Mine.Internal.").replace "}" " )Lean.Parser.Term.app )~refine` )group").replace "`" " )null )~tacticSeq1Indented )~tacticSeq").replace "~" "Lean.Parser.Tactic.").splitOn "\n"))
open Lean in
 def yT:Nat→String→Syntax→List String→List Syntax→List (List Syntax)→List Syntax
 |n+1,p,s,w::l,x,k=>
  let c:=String.Pos.Raw.get w ⟨0⟩
  let r:=w.toList.tail
  let q:=String.ofList r
  if c=='(' then yT n p s l [] (x::k)
  else if c==')' then yT n p s l (.node .none q.toName x.reverse.toArray::k.headD []) k.tail
  else if c=='^' then yT n p s l (yQ (fun s x=>yT n s[1][0].getId.toString s (yR.getD ((r.headD c).toNat-48) []) x []) (yP s r.tail).getArgs.toList x) k
  else if c=='?' then if yD (yP s r)==l.headD "" then yT n p s l.tail x k else[s]
  else yT n p s l ((if c=='$' then yP s r else if c=='!' then .atom .none q else mkIdent (q++if c=='%' then p else if c=='=' then yD s[0]else "").toName)::x) k
 |_,_,_,_,x,_=>x
open Lean in
 def yN (x:String) (s:Syntax):List (List String)→Syntax
 |(k::e::t)::l=>if k==x then(yT 9999 (toString ((yP s e.toList.tail).getNumArgs/2+1)) s t [] []).headD s else yN x s l
 |_::l=>yN x s l
 |_=>s
 def tB:String:="                                rfl                                                             cons nil Nat  some loc  none true ref Value  hall cenv env List tup false wpAny_bind  type wpAny s.heap  top str                int           Str lit sub                       Expr Shared  M.bind  Addr Bool Good  args list req Heap All Option G.σ cmp  ret asg M.pure  Nat.beq attr                                                  Option.none Int st1 pos wpAny_pure M.stuck  dict st2 this call inr bad  cls s.heap.objs.size  B.M inl  trans kvs name  G.ρ                                                   Step heap h.get? h'.get?  s.heap.get?  RelV Option.some.inj G.σ.n if_ prog data acc bool G.σ.at_ PV.casesOn  node Pos absurd wpAny_mono   Ent symm                           Name  if_neg  if_pos                    toks hall.elim Obj    o.cls look rest any pure Array World ofNat body tgt  src  model  next s.toks map builtin                           h.elim  iota  k.C                       mono G.av Here items short G.τ other vals refl Bool.and_eq_true w.params Stmt eval ih.expr  fields st3  seq get? elt len         σ'      List.casesOn rawInt    h₁         sc.names  M.opt Kinds                  upd expr Around room σ.m yes  congrArg  False step bin Nat.eq_of_beq_eq_true s₁ fin Tok q.elim  bind Heap.get?_push_of_some s'.heap String  Nat.le_trans Nat.blt hne                M.all_bind.mp  cell  add Env      Nat.le_of_ble_eq_true  PyData.eqv Value.ref push                   ifs  Call hit  kernel local Out σ.der comp ite  length wpAny_field s''   vs.length Facts Unit key   PySem.call Sem hsz                free  ent   Bool.casesOn   G.new   h₂  inst tail names                   wpAny_holding Nat.le_refl mpr and hat  s.heap.push Constant lift head exc Bool.rec s.at_ old  toArray noStar      Nat.lt_of_lt_of_le σ.ti box adt         PySem.F  h₃ isin    ok'    casesOn h.objs.size  at_ Gm.pure then   zip scope  LV.expr                   ins val hfr  s1.heap.objs.size A.handled L.lookup Ne.symm o.data succ zero size        Nat.ble Tuple M.new env' inf             lookup    Option.casesOn Expr.casesOn  there  EnvK get  Option.bind_eq_some_iff.mp Heap.lt_size s₂  M.LX0 own Own                                                                                                                                                                                                                                                                                                                                                                                                                                                                                                                                                                    σ.at_ Heap.get?_push_size Str.ofString AO.casesOn Int.ofNat g.inv.obj  isNil   Builtin cenv.locals typeLookup fdOf kws ihr st' hbi  PyData Heap.SameBut ts.filterMap hh.objs.size Gm.stuck       sizeLine code Scope all hd'      List.mem_cons.mp  base  s1.toks M.ifB lam hTO hap Nat.ne_of_beq_eq_false     wpAny_loadPart_at                   wpAny_execs_cons wpAny_standAt cenv.kindOf M.IX0.mp now  ann    elim   h'.objs.size vs.toArray negSucc ListComp  new  G.σ.m g.base X.es  Model X.gd       wTab cont brk hc'     hix    hs₂     BoolOp A.in1  qual ext hTI min few                   List.mem_cons_of_mem     st1.trans   gd.base codeAny X.step slots keep field test hok hst  objs wpAny_call_entry    sc.names.lookup PyData.eqvAll Nat.ne_of_lt       assign xs.length ih.stmts   s.TypeIs   st1.mono IsPair raise truth execs stay  knd bit vs'     params hs₁.extBut g.inv.base                   typeIs Subscript Attribute topFrame  V4.stuck strKind frame Ty.hs Nodup tuple error s₃ done hs' tk' cdv   Nat.lt_succ_self              Heap.size_push  eq_of_beq  UnaryOp   X.room x.elim binds fresh G1.av run       List.mem_cons List.not_mem_nil PySem.W.Fast ExceptHandler  spliced_cons                  stmts hs₁  g.inv.av  trivial alive  le.ρ decide  g.ty M.set then' enum ctv Top   Heap.get?_none_of_le             List.mem_cons_self toList  globals or_false isNone B.prog  slice CmpOp Gh.HX0 g.NG X.em app B.w s1.heap       p.main.scope                             Value.none update zG.extBut  ES.toEnvK Nat.add Params Assign obj clipAt  drop T.ent BF.mg wSeg t.p hcs hlt       hgo           wpAny_callSpecial?_slot cenv.cells.lookup List.size_toArray  builtins G1.σ piecesOf function Iff.rfl valueAt pyNext G'.σ plain ts.τ IsZip                  allB hget hacc lst txt Sub B.Z dat        Bool.false_ne_true Nat.le_add_right Nat.not_lt_zero Ty.casesOn B.hf.get? g.inv.inj contains arg func draw k.mN        hce hns hcl hk2                                             Heap.get?_update_self wpAny_newObj_type Nat.blt_eq Flow.casesOn hs₂.extBut Nat.succ TT.get_ins cond_false piece_app FuncData Nat.sub Nat.div PV.none G1.σ.n holding B.hf isTrue ts.map line excOf       o.All X.atC  fits h.Ns hlen l.mN not ts' Fin hs2 hle hs1 hv1 l.C dct                                   er.step0 setIfInBounds wpAny_attempt  sizeLine_eq X.es.toEnvK G0.σ.at_ PV.chain k.isExc k.meths pairsOf wif_neg  M.cond append r.mono  r.elim target       h₅   cBool   G.put  dep getD  iter Tab ops  he' hk1   wpAny_setField_rec    fo.fd.scope.names                          List.length_cons TablesWhole.wSs s1.heap.get? spliced_nil l.length XI.fo ctorIdx gd.toks Flow h.symm stored h.lift as.map fragOf BF.mb take g.fr h'' col fld       hSf    stuck               σ.n                          Nat.succ_le_succ wpAny_seqItems  NameKind PySem.assign  M.all_congr vals.length kvs.length Obj.mapSeq Arguments ns.length qualname defaults x.length Nat.pow ru.step rf.elim standAt xs.size Return  o'.cls q.symm       merged bodyOf outer  again ts.m acc'  y.arg pop hT2 hS' cps      extBut                                       List.mem_of_getElem? Int.natCast_nonneg TablesWhole.holds F.slot_zip_next globalImplicit Nat.casesAuxOn s.heap.update s'.heap.get? cenv.globals s1.heap.push reverse Int.casesOn       Value.type  gd.inv.obj      X.er.step0 isEmpty g.inv.big yJ.extBut ds.length kind  List.rec G.σ.new y.length st2.mono Program Nat.mod A.units RD.list notedBy room' maskOf                  isSome Result isAny e1n2 item hfit   h₄ hn' ω1 whl And hi' hσ hk' imp  hl2 hi1 hc0 Txt               PyProof.Rows   Heap.get?_update_other     wpAny_Call_ofName                                       pw.main.scope           s2.heap Nat.le_succ Nat.zero_le wpAny_of_eq opt DictEntry compareOp       new_apart sY.extBut ts.length A.frames   st.trans  A.deeper closure absHeap kvs.map  ok.info  extend OV.at_ h.push G1.wav not_or σ.bJ shape Po.at hfree  D.TOz                   D.i2z BF.bi X.BF e0n2 G.Le e₂  k'.C clos Post  conv G.wav hfo  pre big hz'  hdn hd2 hx'                 objs.size                                        PySem Bool.not_eq_true' hf.get? List.mem_map.mpr cenv.scope.kind List.nodup_cons wpAny_execs_nil Value.casesOn Nat.le_of_eq Nat.le_of_lt mainGlobals excClassObj It.casesOn wpAny_rule xs.toList boot_heap st2.trans Nat.land compEnvC   LV.stmts       Compare  B5.elim apart D.i1z k.init IsEnum  ES.fn cLine er.Nc codes PV.nil TB.ent miss σ.ne wok True join Mult USub Rel2 l.map r.map  a.next                  doc rev sep x.z hdl hkn hz0 two        TablesWhole List.eq_nil_of_length_eq_zero                                                             F.slot_enumerate_next Option.map_eq_some_iff.mp  Builtin.SmallTypes.nextOf wpAny_isSubtype_exc  List.all_eq_true.mp List.lookup_cons checkBuiltinCall wpAny_setField NameKind.cell rec wpAny_typeOf h1.objs.size call_meets  items.size hit.typeIs fd.params X.er DictOf G2.σ IsCode hne.symm       V.length Nat.rec allB_of newList getItem A.depth A.under  Ra.call WData IsPart A.mark loose split  Raise toNat hcode D.l1z X0.es mixed NZ.map snoc B.iI0  x.ne                  hloc row2  t.dep  e.key Arg  ho' hob snd hfI hf2  h12 res                                       fd.scope.names                     Builtin.SmallTypes.ownedTupleIsFree      fd.scope    inj        scope.kind                                   List.mem_singleton.mp kindOf Nat.lt_succ_of_lt                    wpAny_isInstance List.length_nil cells depth Nat.add_le_add List.map_cons toArray.size  st.le FunctionDef acc.toList setdefault beq_iff_eq assignEach lookup_mem names.zip le.av  starEach SF.slot XB.leaf handle findIn Within map_eq whole       IfExp h.Ns1 B.lam σ.put Gh.NX0 Gm.ifB It.jG hrest PV.int V4.toks g2.base er.ns σ.Mp e1n4 hret H.st G.BX0 has back hend o.dict ω3 Add t.w hl1                        heap.get?               filterMap   TypeIs                items.toList.length                                               List.zip_cons_cons beq_self_eq_true Nat.succ_ne_zero Nat.zero_lt_two List.forIn_cons codeAny_builtin decide_eq_true h₂.objs.size h₅.objs.size Value.builtin PySem.setAttr swappedStores deeper G0.σ Nat.zero_add       Nat.ne_of_gt hp.objs.size IsCell  Int.negSucc    kwdefaults Option.rec builtinsNs cenv.frame hs.extBut G1.σ.at_ A.in1.in1 Slice wav bindName if_true It.lst isCall module M.put yield hcell keeps                  X'.ns G2.ρ foldl st.k3 er.Ws XB.VN0 x.hTI Ty.gP0 ok.dep st.tup X'.at_ x8.new st.keep fd.code rx.step LV.test σ.t st.le.av fo.body le.τ er.ai cOpt G.upT more h.ne M.QX0       x.s2 z.arg t.get Not For tyP hg'  hn2 hfc hm' hv2 hi2  rw' hxs h11 hSI hop Mod                                                               Option.isNone_iff_eq_none.mp                                                      Nat.succ_add_eq_add_succ Builtin.Tuple.tupleExact List.mem_append_right Int.ofNat_eq_natCast PyProof.Rows.mul_int step0 Nat.add_le_add_left symm.trans       Obj.data_mapFields codeAny_of_tree recursionLimit M.all_bind.mpr isSubtype_stop Nat.lt_irrefl Obj.mapFields  wpAny_onRaise h.choose_spec ws.toArray pw.main.body Nat.succ.inj heap.Ns Nat.beq_refl x.cps.toList p.main.body Ent.casesOn Good.around wpAny_throw Prod.mk.inj sysModules calm wpAny_call treeTable codeAmong                                                                                                                                                                                                                                                                                                                              cond_true seqIndex? Operator if_false init instObj CompEnd Nat.pred refine backTo D.TOi1 pyIter wok.cel h''.get? ih.Iq docOf BinOp TT.oB0 K1.KX0 Meets gd.Du D.l2z tk₁ PV.rec Gm.at_ h1.ext       G1.new Ent.no AP.at_ T'.ent Pe.any o'.data lo.elim st1.tup pos.line st.le.ρ assign.Tq as.length left told e1n3 def_ self tupP cInt t.hd g₁ M.PX0 X.CT x.s1 X.av                                                                                              H.hf x.arg x.own X.obj p.line r.step er.step G.σ.der G3.σ cut ω2 mul hnf es' hin sum hs0  tk0  ne1 Emb hkb           PySem.F.excBase_Exception List.mem_map Builtin.List  fd.scope.names.lookup     Obj.isFreed_of_fields F.slot_enumerate_iter PyProof.Rows.mod_int'  slot_tupleiter_next       List.any_eq_true.mp of_decide_eq_true getMethod_builtin                       F.args_zip_next_1    wpAny_Return_some   F.entry_zip_next      PyData.depthAll                 pushCells_keeps letOwnedTupleGo PyData.keyHash     rw0.row.toRowW   Nat.not_lt.mpr       newFunctionEnv  List.nodup_nil firstArgMember h₃.objs.size Nat.add_assoc                          List.all_cons Value.isStrOf           assignInOrder              plainId_quiet closureTuple   Nat.succ_pos           Int.ofNat_lt  setItem      e.symm.trans                           PyData.depth isGenerator    isCoroutine                     Heap.ExtBut          heap.IsCell    Obj.putName    e.symm                            rwR.records   R.filterR          setFlight  getMethod pyModule dropLast ih.wloop AutoSeq1 setField ZipApart       ellipsis TT.nil.ins  sameBut  forLoop   co.each Nat.log2      wok1 motive  h'.Ns1  D.TOi2  forget hsplit mkName                   wok.loc le.n kws.length after Const isInt instD G'.ρ  ER.Nc σ₂ PUnit forIn ht₁ hpass st.st s₁' nameV Out.RX0 st.own fo.cls gd.new ih.call sc.kind  hf.keep       Gm.bind vs.drop  hi.elim  hp.get? h'.push   hh.get? ys.size args.all st.alive   qQ.trans room'.le  ws.length  h'.DictOf h₃.push cs.lookup  Mk.casesOn TI.casesOn                  Fl.casesOn wrow G₁ le.m last x.Ws x.Nc s'.heap.Ns x.eq turn same x.nl hrec hint l.get r.get x.src z.elim R.inst er.code z.length t.h.get? mro ltI GtE Inv       e'' hΓ gd' hos hna    hdx hcC  hgd  sim h2' mk1 hd0 hc1   hd1                         heap.objs.size   es.toEnvK                             Nat.lt_succ_iff_lt_or_eq.mp  Builtin.List.listExtendWith       Array.getElem?_eq_getElem    F.args_enumerate_next_1                             Bool.and_eq_true_iff.mp         PySem.F.store_Exception     List.mem_singleton.mpr                      F.entry_enumerate_next   Nat.not_succ_le_zero   PyProof.Rows.add_int codeAny_call_builtin   binds.reverse.lookup   σ.new  wpAny_attributeBase Nat.lt_of_le_of_lt    wpAny_Constant_int                            List.mem_append.mp                       wpAny_truthy_bool       items.toList.drop   env'.cells.lookup    eqv    s.heap.IsSliceOf Nat.min_eq_left                            decide_eq_false  List.length_map   wpAny_specialOf    wpAny_updateSeq     WShape.hasItems                     List.replicate   refuseLoop_ref    List.forIn_nil     Int.not_lt.mp Comprehension                                     Nat.blt_eq.mp    Bool.and_true                       PySem.setItem wpAny_letGo IsRangeIter        annotations   ap.endLine wpAny_load                   IsList closureFor storeName ForInStep noteFrame updateSeq  seqItems? raiseStmt o.isFreed put congrFun binaryOp compLoop D.i12.symm  Good.adopt WData.bool Ns1 OsState operate targets g.ty.info filter sorted pairUp       BF.hmg  refKey RcNeAt  nsFind   funext Keeper D.l2i1 glob   ih.Hq  range   IsNot  natAt XE.MX0 h'.Ns ER.Ws ok.ne                  K1.H10 of_wp HS.tb first LT.OX0 vs.all Ty.dep PV.tup  x8.wav  MB.cls Ent.i7 ts.size g.ty.ne Ns.data st.mono X0.room h0.get? g.ty.dep hfo.keep Pass e0n3 hIdx es.length ks.length        tupS Dict  H.fS     B.zin G.sW0 gd.inv.av s.hd  Value.str RcAt st3.trans gd.ext     Cd.extBut X.es.calm  G2.σ.at_                  h.nm XI.fo.cls post X.ON X.le M.exc ES.globals fd.globals pl.isEmpty X.sub r.zip acc.length c.elim fd.builtins fo.Oj  X.room.calm d.depth x.units x.depth fo.get er.has o.slots G2.σ.n X.frame max       Try        h.IsCode hno   x.c    y.c  cop  hds hf' ha' use hm2                   hr2 t.y             M.all_bind        heap.push           g.inv       inv.obj locals      inv.inj   PySem.W.Fast.te14364793385576792824                                                           List.getElem?_eq_some_iff.mp Builtin.Slice.slicePlaces     Nat.lt_add_of_pos_right              isExc                          Heap.get?_some_iff.mp           builtinLookup_eq_fast  List.getElem?_toArray              setAttr           Nat.add_le_add_right Array.toArray_toList List.map_inj_left.mp   Heap.SameBut.update     list_getitem_lookup                           Builtin.Str.tooLong         Array.length_toList Bool.false_eq_true  Code.quiet_builtin  slot_listiter_next                  List.contains_cons    Nat.lt_one_iff.mp  Nat.le_of_lt_succ Nat.le_succ_of_le      Builtin.Str.glued                         wpAny_pyIter_slot          behindTheImports     wpAny_mroOf_exc                           typeLookup_type  Nat.sub_sub_self   Nat.succ_lt_succ     constantsAlone  wpAny_newTuple getAttr  Nat.mul_add_div                       Nat.min_le_left                              List.map_reverse                                            List.cons_append           List.isEmpty_iff                  mem_of_lookup wpAny_UnaryOp         behindInMarks wpAny_handled   swapsWithSole   List.append_nil wloop    isEmpty_nil                                 interactive                   Obj.dropName  Bool.true_and   IsiPair      boot_drawn          isInstance cameBackBy                        Nat.le_log2     boot_toks           snd_const             nodup     cellsFrom   PySem.getAttr   whileLoop specialOf onTheHeap     Out.catch_   Continue zE.nodup                             NT.reads  h.IsList Nonempty keywords er.apart abstract heap_get D.i1z.symm CodeRec TableAt  shallow spliced flatMap g1.grow release σ.u       σ.u.ins  fmod Step.walk  Lambda cellOf  D.l2TO hthere  mkText newObj seqObj   a.fmod  bases  inner σ.qB0 σ.xX isTup small                   mkObj NotEq NotIn isSet Break While instP Gh.Le K1.JX0 nsSet ER.ai hi₁ K1.I10 IsTup above instR isStr R.rel X'.ga  owner CmpOf wr_ok  h₁' G1.ρ       ne_eq co.fn hclos ce.ns  hbody G0.av  Ty.hP0 Ty.u8 gd.ty freed  Po.now  ES.loc EL.nil    oI.cls gd.put h2.ext It.zip V5.wav                   G'.wav wok.Uv ce.new Si.all Ta.ent iP0.mpr  LF.int NY.at_ Ay.map Out.rec U8.mono TT.node st.data er.cell ES.cell h2.symm n1.symm n2.symm g1.toks hp.elim X'.miss rf.step hv.step X1.pred px.lift       ES.calm g1.base pm.getD g2.toks Xi.trans Yi.trans acc.size  st3.mono C.bad ps.toList a.cls h'.IsCell ht.typeIs s₁.heap hl.typeIs rY.extBut g1.inv.av st1.alive ys.length Mt.casesOn p.bind a.args x.code x.mono                   hs'.extBut vs.reverse x.calm fo.data qt.casesOn names.take h.objs.pop                                                                                                                                                                                                                                                                                                                                                                                                                                                                                                                                        handled size_push items.toList inv.av toList.length Builtin.Tuple Nat.not_lt Builtin.SmallTypes.ownedTupleHandOut PySem.F.excBase_Exception.hasBase frames PySem.Challenge.rw_ot0048_01 F.slot_enumerate_next.lookup not_lt.mp List.length_eq_zero_iff.mp slot_tuple_getitem.lookup Builtin.Slice.sliceAdjust Builtin.List.listTooLong List.filterMap_cons_some decide_eq_false_iff_not F.args_enumerate_iter_1 F.entry_enumerate_iter wpAny_isTrue_Compare1 Nat.le_mul_of_pos_left Nat.le_of_succ_le_succ Name_function_global       wpAny_typeLookup_exc wpAny_specialOf_inst wpAny_letTemporaryGo entry_tupleiter_next wpAny_updateSeq_pair Nat.ble_eq_true_of_le Nat.add_sub_add_right args_tupleiter_next beq_eq_false_iff_ne of_decide_eq_false  F.slot_list_extend eraseIdxIfInBounds Array.getElem?_eq_none F.plainAttrs_list F.plainAttrs_dict wpAny_assign_Name wpAny_lookBehind pastItsLine_dict wpAny_madeBy_exc Nat.le_of_succ_le Nat.lt_succ_of_le Int.toNat_natCast Builtin.Range.rangeSize importedModules storeName_local                  theTreesLotGoes List.lookup_append Nat.le_of_not_le List.reverse_cons List.any_eq_false wpAny_bindName wpAny_Expr_any callType_codes Int.ofNat_le.mpr length_append rangeSize_one PySem.F.called_tuple x.annotation  call_meetsIn call_range_1 assign_tuple List.nil_append List.find?_cons le_antisymm kw_defaults wpAny_mkInt es.findIdx? storeInDict wpAny_point unpackItems       List.drop_zero wpAny_noted cenv.blockKind unsupported lookupAlong wpAny_alive loadIfAlive PySem.F.mro_object subclasses BF.noLimit  StoreFacts wpAny_List  typeIs_str LT.get_mem IsRange.new Decidable Bool.not_not gd.around hasDictIn specialIn SF.passes refuse_eq gt_iff_lt IsEnumOut                                                                                                                                                                                                                                                                                                                                                                                                                                                                                                                                                               small_one assignAll pure_bind TriplesOk  promised DictComp h.choose PyData.canLay0 d1.mapOf SF.entry wpAny_If entryFor handlers handleBy FloorDiv WRecords hn'.count topStub noTwice σ.isNe SetComp ES.glob plainIs NT.lens part_of       hadNext frameOf takesIn callAny neg_int onRaise wkT_zip StrKeys callerA gather truthy modify typeIn findBy newExc D.l1TO D.l1i2 F.hasB noAttr XI.ini X.good prs.map PV.top LT.rec ob.cls es.any                  ER.has Ty.box Ty.adt RD.tup  PV.ref g1.ext A50.mpr g2.ext Tz.ent Ent.fn mQ0.any A4.mono hz.elim Eq.symm ha.mono PV.cons fd.body c9.le.n s3.heap rl.step Good.wr hs.elim It.enum Wv.step wok1.Uv       wok1.Vv hC.base s4.heap LV.call rm.elim Good.as s0.heap Si.list                                                                                                                                                                                                                                                                                                                                                                                                                                                                                                                                                                                                                                                                                                                                                                                                                                                                                                                                                                                                                                                                                                                                                                                                                                                                                                        all_bind cells.lookup List.all_eq_true inv.base getElem?_eq_getElem Builtin.Slice       cps.toList reverse.lookup slot_tuple_getitem Int.ofNat_le plainObj_wpAny_Assign_Attribute findIdx? F.slot_range_iterator_next codeAny_call_builtin_code wpAny_check_type_call_sub wpAny_getItem_list_slice wpAny_comprehension_free Nat.eq_of_mul_eq_mul_left codeAny_call_builtin_at tw14082659384304107361 Nat.sub_le_iff_le_add'.mpr F.slot_dict_setdefault codeAny_handlers_suite tw8326940854005059898 tw9446332074065402090 codeAny_call_function Nat.lt_of_succ_lt_succ wpAny_loadName_local F.args_list_extend_2 unbindBehindTheSuite PySem.F.slot_list_getattribute F.entry_list_extend                  IsiPair.tuple_tuple entry_listiter_next Option.isSome_iff_exists.mp PySem.F.slot_zip_getattribute wpAny_getItem_list F.slot_dict_update Manifest.canonical args_listiter_next args_object_init_2 wpAny_pyIter_range wpAny_classOwn_exc wpAny_keeperOf_exc sub_AttributeError List.take_append_drop loadGlobal_global wpAny_sequenceKey List.mem_filterMap.mp arm_evalEach_cons F.args_str_join_2 slot_list_setitem Obj.dropNameByArray fastTable_eq_tree Nat.lt_of_le_of_ne Int.neg_lt_neg_iff slot_list_append F.entry_str_join       wpAny_pyIter_zip notIterableAtAll lookupAlong_cons opaqueClassAbove entryFor_of_tree List.mem_append_left Array.getElem?_modify compareEq_reads compareNe_reads Nat.lt_of_succ_le F.slot_list_pop F.slot_dict_get arm_eval_BoolOp F.slot_str_join List.take_succ_cons Heap.get?_update_ne List.drop_succ_cons PySem.F.entry_extend_loop PySem.F.plain_extend_loop F.slot_zip_iter and_congr_right Int.natCast_pos.mpr Nat.min_eq_right slicePart_none slot_tuple_mul wpAny_layCells                  List.find?_toArray entry_typeCall wpAny_Compare1 methodCallForm Nat.succ_ne_self whileLoop_step raisedInstance wpAny_runValue List.zip_nil_right Nat.le_of_not_lt noPylong_small Nat.le_add_left Nat.div_add_mod Nat.mul_add_mod Nat.one_ne_zero lists_lengths getItem_tuple tupleItemsOf_ slot_int_rmul Heap.get?_push_at wpAny_none_of attributeBase call_len_list Value.isStrOf_shape wpAny_release List.mem_filter.mpr       typeLookup_eq wpAt_of_wpAny Looks.of_pure Obj.dropName_eq annotationsOf PySem.F.plain_tuple_new Nat.zero_lt_one Prod.mk.injEq WShape.hasAll min_le_right wpAny_mkText seqIndex_neg tupleIsExact concat_meets cellsFrom_ok codeAny_func Heap.IsSliceOf.new h.IsListIter List.zipIdx_cons callType_new  List.mem_reverse  excFromValue callSpecial? List.length_take                  Array.forIn_toList floordiv_int resolve_left Array.getElem?_pop tablesWhole clipAt_cast wpAny_alloc List.Pairwise.nil Heap.Ns1.of_empty wpAny_BinOp wpAny_IfExp wpAny_Slice List.foldl_cons List.zipIdx_nil Bool.or_eq_true bindSpecial wpAny_nsGet builtinsFor listSameRef Internal.cl isCodeTable namesBound Nat.add_comm wpAny_Name list_tuple tuple_list       typeIs_int bne_iff_ne callMarked methodCall List.drop_drop wloop_step ts.head?.map excMatches fastLookup sortedHeap collection staticsOk rw0.Holds wloopStep ScopeKind TypeParam methodObj List.any_cons PyData.canLayAll0 pushCells dropWhile handedOut handed_on load_attr tc_lookup PySem.strValues                  hd.dictAt IsTupIter wpAny_For swapsWith wpAt_bind name_goes ClassData slotNames laidKept gensDone openGood whole_of wProgram max_le.mpr  PySem.P.ge_int list_str  str_list QT.empty keeperOf evalArgs  callWith calleeOf toString       kdl_dict newTuple compTurn pos.atName FuncBody bindArgs List.map_nil wkT_enum instP_sh instP_of IntMulOk all_rows rwR.claim Prod.ext PySem.passOn"
 def tM:Array String:=(tB.splitOn " ").toArray
 def yI:List Char→Nat
 |c::l=>c.toNat-47+75*yI l
 |_=>0
open Lean in
 def yX (m:Array String):Name→Name
 |.str p s=>let e:=m.getD (yI s.toList) "";if e=="" then .str (yX m p) s else(yX m p).appendCore e.toName
 |n=>n
open Lean in
 def sT (m:Array String):Nat→Syntax→Syntax
 |n+1,.atom i v=> .atom .none v
 |n+1,.ident i r v p=> .ident .none r (yX m v) p
 |n+1,.node i k a=>yN k.toString (.node .none k (yM (sT m n) a.toList).toArray) yR
 |_,s=>s
abbrev H.rw0:=PySem.Challenge.rw_ot0048_01
end Mine.Internal
end
section
set_option compiler.extract_closed false
local macro_rules (kind:=Lean.Parser.Command.declaration)|s=>if s.getPos?.isSome then pure (Mine.Internal.sT Mine.Internal.tM 9999 s)else Lean.Macro.throwUnsupported
section
open PySem PySem.W PyProof.Rows
set_option maxRecDepth 100000
set_option maxHeartbeats 0
namespace Mine.Internal.H
noncomputable section
set_option backward.match.sparseCases false
noncomputable abbrev pw:tL:=EP.Challenge.pw_ot0048_01
def pb:P0 P5:=lZ
def st(n:C0):P5:=pb.jI n (.Vn ⟨0,0,0,0⟩)
def me(n j:C0):P5:=match st n with
 |.ClassDef _ _ _ b _ _ _ _ _ _ _=>b.jI j (.Vn ⟨0,0,0,0⟩)
 |x=>x
def fN:P5->u0
 |.JU n _ _ _ _ _ _ _ _ _=>n
 |_=>EA ""
def fA:P5->MK
 |.JU _ a _ _ _ _ _ _ _ _=>a
 |_=>⟨[],[],H0,[],[],H0,[]⟩
def fB:P5->P0 P5
 |.JU _ _ b _ _ _ _ _ _ _=>b
 |_=>[]
def fS:P5->cA
 |.JU _ _ _ _ _ _ sc _ _ _=>sc
 |_=>IN
def s(x:V6):u0:=EA x
def v(x:V6)(t:C0):K0:=.Z0 (EA x) t
def r(a:C0):K0:=.J0 a
def i(k:B2):K0:=.j0 k 0
def oT(l:P0 K0):D4:=⟨.U0 "tuple",H0,.W5 l.P8 0,#[]⟩
def oF(l:P0 K0):D4:=⟨.H0,H0,.T5 l.P8,#[]⟩
def oC(l:P0 K0):D4:=⟨.U0 "code",H0,.T5 l.P8,#[]⟩
def oQ(x:P5)(q:u0):D4:=⟨.H0,H0,.XG {W2:=fN x,OK:=q,wC:=fA x,P4:=.AE (fB x),w8:=fS x,dE:=0,jN:=[],PK:=.H0,iW:=.H0},#[]⟩
def oD(x:P5)(q:u0)(dV kV AQ pm cd ct:K0):D4:=
 ⟨.U0 "function",H0,.XG {W2:=fN x,OK:=q,wC:=fA x,P4:=.AE (fB x),w8:=fS x,dE:=3,jN:=[],PK:=dV,iW:=kV,AQ:=AQ,Ue:=pm,bA:=cd,bc:=ct},#[]⟩
def oK(n:u0)(bs Wg:P0 K0)(ns:C0)(q:u0)(w0:P0 K0)(sl:P0 (Q1 K0)):D4:=
 ⟨.U0 "type",H0,.O2 {W2:=n,sy:=bs,Wg:=Wg,ns:=ns,OK:=q,i90:=w0},sl.P8⟩
def dl(P:OF)(l:P0 (V6×C0×K0)):M4 YN:=(wP λ x=>(⟨db P (EA x.1),.Z0 (EA x.1) x.2.1,x.2.2⟩:YN)).P8
def oM(n:C0)(es:M4 YN):D4:=⟨.U0 "dict",H0,.H2 es n,#[]⟩
def oN(n:C0)(es:M4 YN):D4:=⟨.H0,H0,.H2 es n,#[]⟩
noncomputable def tin(t:BT):C0->D4->BT:=@BT.NR (λ _=>C0->D4->BT) (λ _ o=> .S3 o .B0 .B0)
 (λ v l r a b i o=>@L8 (λ _=>BT) (@L8 (λ _=>BT) (.S3 v l (b (QH (RH i 2) 1) o)) (.S3 v (a (RH i 2) o) r) (Y1 (uL i 2) 1)) (.S3 o l r) (Y1 i 0)) t
noncomputable def A9(t:BT)(l:P0 (C0×D4)):BT:=@pL (C0×D4) (λ _=>BT->BT) (λ t=>t) (λ p _ f t=>f (tin t p.1 p.2)) l t
def tag(c:V6)(l:P0 K0):D4:=⟨.U0 c,H0,.T5 l.P8,#[]⟩
def oB(l:P0 K0):D4:=tag "builtin_function_or_method" l
def oG(l:P0 K0):D4:=tag "getset_descriptor" l
def oS(a:C0):D4:=tag "super" [r a,r a,r a]
def eT:D4:=oT []
def eF:D4:=oF []
def ap{α:Type}(l m:P0 α):P0 α:=@pL α (λ _=>P0 α) m (λ a _ ih=>a::ih) l
def vs(t:C0)(l:P0 V6):P0 K0:=@pL V6 (λ _=>C0->P0 K0) (λ _=>[]) (λ x _ ih t=>v x t::ih (NF t 1)) l t
def oV(t:C0)(l:P0 V6):D4:=oT (vs t l)
def bP:D4:=oB [.Z4 "type.__prepare__",.U0 "type"]
def bI(a:C0):D4:=oB [.Z4 "object.__init_subclass__",r a]
def gD(t a:C0):D4:=oG [v "__dict__" t,r a,.Z4 "function.__dict__",.Z4 "function.__dict__#set"]
def gW(t a:C0):D4:=oG [v "__weakref__" t,r a,.Z4 "ExceptionGroup.__weakref__",.H0]
def oR(a b:C0)(m:K0):D4:=⟨.U0 "frame",H0,.xF,#[E0 (r a),E0 (r 3),E0 (r b),H0,E0 m,H0,E0 (r 0)]⟩
def kO(n:V6)(a ns t1 t2:C0):D4:=oK (s n) [.U0 "object"] [r a,.U0 "object"] ns (s n) [] [H0,H0,E0 (v n t1),E0 (v n t2),E0 (.Z4 "object.__new__"),E0 (.O3 I0)]
def Ja(t:C0):K0:=v "/claim/cut.py" t
def co(n q:V6)(t l a k b:C0)(f:I1)(z:C0)(x y u:K0)(t2:C0):D4:=
 oC [v n t,v q (NF t 1),Ja (NF t 2),i (.O4 l),i (.O4 a),i 0,i 0,i (.O4 k),r b,.O3 f,i 181,r z,.H0,x,y,u,i (.O4 t2),i (.O4 l),Ja (NF t2 1)]
def oJ(l:P0 (C0×C0×C0)):D4:=oF (@pL (C0×C0×C0) (λ _=>P0 K0) [] (λ x _ ih=>i (.O4 x.1)::i (.O4 x.2.1)::r x.2.2::ih) l)
def fQ(b l a t m t2:C0)(x:P5)(n q:V6)(p y md dv:K0):P0 (C0×D4):=
 [(m,oQ x (s q)),(NF m 1,co n q t l a 3 b I0 (NF b 1) p y (r m) t2),(NF m 2,oD x (s q) dv .H0 .H0 md (r (NF m 1)) .H0)]
def fG(b l a t:C0)(x:P5)(n q:V6)(ns:P0 V6)(md dv:K0):P0 (C0×D4):=
 (b,eT)::(NF b 1,eF)::@pL V6 (λ _=>P0 (C0×D4)) (fQ b l a t (NF b 2) (NF t 3) x n q .H0 .H0 md dv)
  (λ _ _ _=>(NF b 2,oV (NF t 3) ns)::(NF b 3,eT)::fQ b l a t (NF b 4) (NF (NF t 3) NK) x n q (r (NF b 2)) (r (NF b 3)) md dv) ns
def fg(b l a t j:C0)(n:V6)(ns:P0 V6)(md:K0):P0 (C0×D4):=fG b l a t (st j) n n ns md .H0
def bF(t:BT)(l:P0 (P0 (C0×D4))):BT:=@pL (P0 (C0×D4)) (λ _=>BT->BT) (λ t=>t) (λ p _ f t=>f (A9 t p)) l t
def m0:K0:=v "__main__" 164
def m1:K0:=v "lendcore.errors" 194
def m2:K0:=v "lendcore.type_heads" 276
def m3:K0:=v "lendcore.traits" 332
def m4:K0:=v "lendcore.types" 437
def m5:K0:=v "lendcore.check_calls" 512
def m6:K0:=v "lendcore.infer" 736
def m7:K0:=v "lendcore.names" 844
def m8:K0:=v "lendcore.check_state" 952
def m9:K0:=v "lendcore.world" 1226
def qE:K0:=v "law_ot0048_01" 1439
def d0:P0 (V6×C0×K0):=[("__doc__",166,.H0),("__package__",167,.H0),("__loader__",168,(.Z4 "__main__.__loader__#opaque")),("__spec__",169,.H0),("__annotations__",170,(r 6)),("__builtins__",171,(r 4)),("__file__",173,(v "/claim/cut.py" 172)),("__cached__",174,.H0),("_wall",193,(r 21)),("LendError",227,(r 39))]
def g0:P0 (C0×C0×C0):=[(1,0,20),(5,0,27)]
def d1:P0 (V6×C0×K0):=ap d0 [("NameFault",243,(r 52)),("TypeFault",259,(r 64))]
def g1:P0 (C0×C0×C0):=ap g0 [(11,0,48),(13,0,60)]
def d2:P0 (V6×C0×K0):=ap d1 [("TraitFault",275,(r 76)),("head_pairs",287,(r 85)),("could_be",301,(r 92)),("match_type",317,(r 99)),("match_all",331,(r 106)),("MOST_DEEP",335,(.j0 12 334)),("last_name",342,(r 113)),("names_of",348,(r 118))]
def g2:P0 (C0×C0×C0):=ap g1 [(15,0,72),(18,0,84),(36,0,91),(56,0,98),(77,0,105),(89,0,112),(91,0,117)]
def d3:P0 (V6×C0×K0):=ap d2 [("matches_impl",359,(r 125)),("is_plainly_copy",366,(r 132)),("Selection",436,(r 173)),("UNIT",440,(r 179))]
def g3:P0 (C0×C0×C0):=ap g2 [(93,0,124),(99,0,131),(105,0,138)]
def d4:P0 (V6×C0×K0):=ap d3 [("parts_of",448,(r 186)),("rebuilt",457,(r 193)),("substituted",463,(r 198)),("with_regions",469,(r 203)),("no_region",476,(r 210)),("erased",483,(r 217)),("region_text",490,(r 224)),("type_text",496,(r 229)),("field_rows",505,(r 236)),("fields_of",511,(r 241)),("PLAIN_TYPES",524,(r 242)),("names_in_path",530,(r 247)),("given_types",542,(r 254)),("owe_bounds",555,(r 261)),("check_owed",561,(r 266))]
def g4:P0 (C0×C0×C0):=ap g3 [(154,0,185),(163,0,192),(174,0,197),(178,0,202),(184,0,209),(186,0,216),(188,0,223),(192,0,228),(214,0,235),(216,0,240),(230,0,246),(232,0,253),(239,0,260),(243,0,265)]
def d5:P0 (V6×C0×K0):=ap d4 [("type_ahead",573,(r 273)),("Callee",606,(r 290)),("callee_of",612,(r 299)),("plain_callee",618,(r 304)),("impl_callee",624,(r 309)),("settle_args",630,(r 314)),("trait_callee",636,(r 319)),("impls_with",647,(r 326))]
def g5:P0 (C0×C0×C0):=ap g4 [(249,0,272),(265,0,279),(271,0,298),(274,0,303),(279,0,308),(288,0,313),(300,0,318),(313,0,325)]
def d6:P0 (V6×C0×K0):=ap d5 [("traits_with",659,(r 333)),("callee_within",672,(r 340)),("callee_at",686,(r 347)),("read_arguments",692,(r 352)),("form_of",701,(r 359)),("read_variant",707,(r 364)),("read_box",719,(r 371)),("check_call",735,(r 378))]
def g6:P0 (C0×C0×C0):=ap g5 [(319,0,332),(326,0,339),(337,0,346),(350,0,351),(354,0,358),(356,0,363),(363,0,370),(369,0,377)]
def d7:P0 (V6×C0×K0):=ap d6 [("Infer",843,(r 456))]
def g7:P0 (C0×C0×C0):=ap g6 [(382,0,384)]
def d8:P0 (V6×C0×K0):=ap d7 [("INT_KINDS",855,(r 461)),("Reader",939,(r 514))]
def g8:P0 (C0×C0×C0):=ap g7 [(452,0,467)]
def d9:P0 (V6×C0×K0):=ap d8 [("type_of",951,(r 526)),("SELF",955,(v "Self" 954))]
def g9:P0 (C0×C0×C0):=ap g8 [(523,0,525)]
def d10:P0 (V6×C0×K0):=ap d9 [("Checker",1205,(r 693))]
def g10:P0 (C0×C0×C0):=ap g9 [(527,0,532)]
def d11:P0 (V6×C0×K0):=ap d10 [("names_in",1211,(r 702)),("plain_value",1218,(r 709)),("is_held",1225,(r 716)),("Adt",1269,(r 735))]
def g11:P0 (C0×C0×C0):=ap g10 [(660,0,701),(662,0,708),(668,0,715),(673,0,722)]
def d12:P0 (V6×C0×K0):=ap d11 [("Sig",1312,(r 756))]
def g12:P0 (C0×C0×C0):=ap g11 [(683,0,745)]
def d13:P0 (V6×C0×K0):=ap d12 [("TraitRow",1347,(r 777))]
def g13:P0 (C0×C0×C0):=ap g12 [(694,0,766)]
def d14:P0 (V6×C0×K0):=ap d13 [("ImplRow",1391,(r 799))]
def g14:P0 (C0×C0×C0):=ap g13 [(701,0,787)]
def d15:P0 (V6×C0×K0):=ap d14 [("World",1438,(r 828)),("_law_pool",1451,(r 839)),("_law_take",1460,(r 846)),("_law_one",1468,(r 853)),("_law_u8",1471,(r 854)),("_law_T",1474,(r 855)),("_law_U",1477,(r 856)),("_law_find",1489,(r 864))]
def g15:P0 (C0×C0×C0):=ap g14 [(712,0,809),(727,0,838),(732,0,845),(739,0,852),(744,0,863)]
def d16:P0 (V6×C0×K0):=ap d15 [("_law_world",1503,(r 871)),("_law_checker",1510,(r 878)),("_law_rows",1520,(r 885)),("_law_fit",1529,(r 892)),("_law_put",1535,(r 897)),("_law_closed",1544,(r 904)),("_law_written",1551,(r 911)),("_law_has",1558,(r 918)),("_law_due",1564,(r 923)),("_law_told",1570,(r 928)),("_law_call_right",1576,(r 933)),("_law_refused_right",1582,(r 938)),("law",1588,(r 943))]
def g16:P0 (C0×C0×C0):=ap g15 [(749,0,870),(769,0,877),(773,0,884),(778,0,891),(784,0,896),(792,0,903),(797,0,910),(803,0,917),(805,0,922),(817,0,927),(844,0,932),(869,0,937),(877,0,942)]
def t0(P:OF):BT:=bF .B0 [[(0,boot_o_0 P),(1,boot_o_1 P),(2,boot_o_2 P),(3,boot_o_3 P),(4,boot_o_4 P),(5,boot_o_5 P),(6,boot_o_6 P),(7,boot_o_7 P),(8,boot_o_8 P),(9,boot_o_9 P),(10,boot_o_10 P),(11,eT),(12,eF),(13,co "<module>" "<module>" 182 1 0 0 11 R0 12 .H0 .H0 .H0 185),(14,oR 13 3 m0)]]
def t1(P:OF):BT:=bF (t0 P) [[(2,oN 2 (dl P [("type.__subclasses__.Exception.0",224,(i 39)),("type.__subclasses__.Exception.n",225,(i 1))])),(3,oM 11 (dl P (("__name__",165,m1)::d0))),(12,oJ g0)],fg 15 1 1 187 0 "_wall" ["k"] m0,[(22,oT [(.U0 "Exception")]),(23,bP),(24,oM 5 (dl P [("__module__",203,m1),("__qualname__",205,(v "LendError" 204)),("__firstlineno__",207,(.j0 5 206)),("__init__",217,(r 36)),("__static_attributes__",220,(r 37))])),(25,eT),(26,oF [(i 7),(i 4),(r 35)]),(27,co "LendError" "LendError" 198 5 0 0 25 R0 26 .H0 .H0 .H0 201),(28,oR 27 24 m1),(29,oT [(.j0 0 208)])],fG 30 7 3 209 (me 2 0) "__init__" "LendError.__init__" ["self","message","spot"] m1 (r 29),[(37,oV 218 ["message","spot"]),(38,oM 3 (dl P [("__module__",203,m1),("__firstlineno__",207,(.j0 5 206)),("__init__",217,(r 36)),("__static_attributes__",220,(r 37)),("__weakref__",222,(r 40)),("__doc__",223,.H0)])),(39,oK (s "LendError") [(.U0 "Exception")] [(r 39),(.U0 "Exception"),(.U0 "BaseException"),(.U0 "object")] 38 (s "LendError") [] [(E0 (r 22)),H0,(E0 (v "LendError" 196)),(E0 (v "LendError" 204)),(E0 (.Z4 "Exception.__new__")),(E0 (.O3 I0))]),(40,gW 221 39),(41,oS 39),(42,bI 39)]]
def t2(P:OF):BT:=bF (t1 P) [[(3,oM 13 (dl P (("__name__",165,m1)::d1))),(12,oJ g1),(39,oK (s "LendError") [(.U0 "Exception")] [(r 39),(.U0 "Exception"),(.U0 "BaseException"),(.U0 "object")] 38 (s "LendError") [(r 52),(r 64)] [(E0 (r 22)),H0,(E0 (v "LendError" 196)),(E0 (v "LendError" 204)),(E0 (.Z4 "Exception.__new__")),(E0 (.O3 I0))]),(43,oT [(r 39)]),(44,bP),(45,oM 4 (dl P [("__module__",235,m1),("__qualname__",237,(v "NameFault" 236)),("__firstlineno__",239,(.j0 11 238)),("__static_attributes__",240,(r 50))])),(46,eT),(47,eF),(48,co "NameFault" "NameFault" 230 11 0 0 46 R0 47 .H0 .H0 .H0 233),(49,oR 48 45 m1),(50,eT),(51,oM 2 (dl P [("__module__",235,m1),("__firstlineno__",239,(.j0 11 238)),("__static_attributes__",240,(r 50)),("__doc__",241,.H0)])),(52,oK (s "NameFault") [(r 39)] [(r 52),(r 39),(.U0 "Exception"),(.U0 "BaseException"),(.U0 "object")] 51 (s "NameFault") [] [(E0 (r 43)),H0,(E0 (v "NameFault" 228)),(E0 (v "NameFault" 236)),(E0 (.Z4 "Exception.__new__")),(E0 (.O3 I0))]),(53,oS 52),(54,bI 52),(55,oT [(r 39)]),(56,bP),(57,oM 4 (dl P [("__module__",251,m1),("__qualname__",253,(v "TypeFault" 252)),("__firstlineno__",255,(.j0 13 254)),("__static_attributes__",256,(r 62))])),(58,eT),(59,eF),(60,co "TypeFault" "TypeFault" 246 13 0 0 58 R0 59 .H0 .H0 .H0 249),(61,oR 60 57 m1),(62,eT),(63,oM 2 (dl P [("__module__",251,m1),("__firstlineno__",255,(.j0 13 254)),("__static_attributes__",256,(r 62)),("__doc__",257,.H0)])),(64,oK (s "TypeFault") [(r 39)] [(r 64),(r 39),(.U0 "Exception"),(.U0 "BaseException"),(.U0 "object")] 63 (s "TypeFault") [] [(E0 (r 55)),H0,(E0 (v "TypeFault" 244)),(E0 (v "TypeFault" 252)),(E0 (.Z4 "Exception.__new__")),(E0 (.O3 I0))]),(65,oS 64),(66,bI 64)]]
def t3(P:OF):BT:=bF (t2 P) [[(3,oM 21 (dl P (("__name__",165,m3)::d2))),(12,oJ g2),(39,oK (s "LendError") [(.U0 "Exception")] [(r 39),(.U0 "Exception"),(.U0 "BaseException"),(.U0 "object")] 38 (s "LendError") [(r 52),(r 64),(r 76)] [(E0 (r 22)),H0,(E0 (v "LendError" 196)),(E0 (v "LendError" 204)),(E0 (.Z4 "Exception.__new__")),(E0 (.O3 I0))]),(67,oT [(r 39)]),(68,bP),(69,oM 4 (dl P [("__module__",267,m1),("__qualname__",269,(v "TraitFault" 268)),("__firstlineno__",271,(.j0 15 270)),("__static_attributes__",272,(r 74))])),(70,eT),(71,eF),(72,co "TraitFault" "TraitFault" 262 15 0 0 70 R0 71 .H0 .H0 .H0 265),(73,oR 72 69 m1),(74,eT),(75,oM 2 (dl P [("__module__",267,m1),("__firstlineno__",271,(.j0 15 270)),("__static_attributes__",272,(r 74)),("__doc__",273,.H0)])),(76,oK (s "TraitFault") [(r 39)] [(r 76),(r 39),(.U0 "Exception"),(.U0 "BaseException"),(.U0 "object")] 75 (s "TraitFault") [] [(E0 (r 67)),H0,(E0 (v "TraitFault" 260)),(E0 (v "TraitFault" 268)),(E0 (.Z4 "Exception.__new__")),(E0 (.O3 I0))]),(77,oS 76),(78,bI 76)],fg 79 18 2 278 7 "head_pairs" ["one","other","kind","alike"] m2,fg 86 36 2 288 8 "could_be" ["one","other","answer","left","here","there","kinds","pairs"] m2,fg 93 56 4 302 9 "match_type" ["pattern","subject","names","found","answer","left","here","there","told","pairs"] m2,fg 100 77 4 318 10 "match_all" ["patterns","subjects","names","found","answer","pattern","subject","told"] m2,fg 107 89 1 336 13 "last_name" ["path"] m3,fg 114 91 1 343 14 "names_of" [] m3]
def t4(P:OF):BT:=bF (t3 P) [[(3,oM 25 (dl P (("__name__",165,m4)::d3))),(12,oJ g3)],fg 119 93 3 349 15 "matches_impl" ["impl","trait_args","T","found","patterns"] m3,fg 126 99 1 360 16 "is_plainly_copy" ["T"] m3,[(133,eT),(134,bP),(135,oM 9 (dl P [("__module__",374,m3),("__qualname__",376,(v "Selection" 375)),("__firstlineno__",378,(.j0 105 377)),("__init__",387,(r 146)),("bound_of",396,(r 153)),("needs_of",402,(r 158)),("candidates",420,(r 165)),("asked",426,(r 170)),("__static_attributes__",429,(r 171))])),(136,eT),(137,oF [(i 107),(i 4),(r 145),(i 111),(i 4),(r 152),(i 116),(i 4),(r 157),(i 123),(i 4),(r 164),(i 137),(i 4),(r 169)]),(138,co "Selection" "Selection" 369 105 0 0 136 R0 137 .H0 .H0 .H0 372),(139,oR 138 135 m3)],fG 140 107 3 379 (me 17 0) "__init__" "Selection.__init__" ["self","world","bounds"] m3 .H0,fG 147 111 3 388 (me 17 1) "bound_of" "Selection.bound_of" ["self","trait","T"] m3 .H0,fG 154 116 3 397 (me 17 2) "needs_of" "Selection.needs_of" [] m3 .H0,fG 159 123 5 403 (me 17 3) "candidates" "Selection.candidates" ["self","trait","args","T","deep","rows","impl","answer","found","other","part","told"] m3 .H0,fG 166 137 5 421 (me 17 4) "asked" "Selection.asked" [] m3 .H0,[(171,oV 427 ["bounds","world"]),(172,oM 4 (dl P [("__module__",374,m3),("__firstlineno__",378,(.j0 105 377)),("__init__",387,(r 146)),("bound_of",396,(r 153)),("needs_of",402,(r 158)),("candidates",420,(r 165)),("asked",426,(r 170)),("__static_attributes__",429,(r 171)),("__dict__",431,(r 174)),("__weakref__",433,(r 175)),("__doc__",434,.H0)])),(173,kO "Selection" 173 172 367 375),(174,gD 430 173),(175,gW 432 173),(176,oS 173),(177,bI 173),(178,eT),(179,oT [(v "tuple" 439),(r 178)])]]
def t5(P:OF):BT:=bF (t4 P) [[(3,oM 40 (dl P (("__name__",165,m5)::d4))),(12,oJ g4)],fg 180 154 1 441 20 "parts_of" ["told","kind"] m4,fg 187 163 2 449 21 "rebuilt" ["told","parts","kind"] m4,fg 194 174 2 458 22 "substituted" [] m4,fg 199 178 2 464 23 "with_regions" [] m4,fg 204 184 1 470 24 "no_region" ["region"] m4,fg 211 186 1 477 25 "erased" ["told"] m4,fg 218 188 1 484 26 "region_text" ["region"] m4,fg 225 192 1 491 27 "type_text" [] m4,fg 230 214 3 497 28 "field_rows" ["told","variant","world"] m4,fg 237 216 3 506 29 "fields_of" [] m4,[(242,oV 514 ["bool","i8","i16","i32","i64","u8","u16","u32","u64","usize"])],fg 243 230 1 525 32 "names_in_path" [] m5,fg 248 232 4 531 33 "given_types" ["checker","params","told","spot","found","place"] m5,fg 255 239 4 543 34 "owe_bounds" ["checker","params","given","spot","name","traits","trait"] m5,fg 262 243 1 556 35 "check_owed" [] m5]
def t6(P:OF):BT:=bF (t5 P) [[(3,oM 48 (dl P (("__name__",165,m5)::d5))),(12,oJ g5)],fg 267 249 3 562 36 "type_ahead" ["checker","s","spath","ahead","first","path"] m5,[(274,eT),(275,bP),(276,oM 5 (dl P [("__module__",581,m5),("__qualname__",583,(v "Callee" 582)),("__firstlineno__",585,(.j0 265 584)),("__init__",595,(r 287)),("__static_attributes__",599,(r 288))])),(277,eT),(278,oF [(i 267),(i 4),(r 286)]),(279,co "Callee" "Callee" 576 265 0 0 277 R0 278 .H0 .H0 .H0 579),(280,oR 279 276 m5)],fG 281 267 4 586 (me 37 0) "__init__" "Callee.__init__" ["self","fnref","inputs","output"] m5 .H0,[(288,oV 596 ["fnref","inputs","output"]),(289,oM 4 (dl P [("__module__",581,m5),("__firstlineno__",585,(.j0 265 584)),("__init__",595,(r 287)),("__static_attributes__",599,(r 288)),("__dict__",601,(r 291)),("__weakref__",603,(r 292)),("__doc__",604,.H0)])),(290,kO "Callee" 290 289 574 582),(291,gD 600 290),(292,gW 602 290),(293,oS 290),(294,bI 290)],fg 295 271 4 607 38 "callee_of" [] m5,fg 300 274 4 613 39 "plain_callee" [] m5,fg 305 279 6 619 40 "impl_callee" [] m5,fg 310 288 5 625 41 "settle_args" [] m5,fg 315 300 6 631 42 "trait_callee" [] m5,fg 320 313 3 637 43 "impls_with" ["checker","T","name","found","impl"] m5]
def t7(P:OF):BT:=bF (t6 P) [[(3,oM 56 (dl P (("__name__",165,m6)::d6))),(12,oJ g6)],fg 327 319 3 648 44 "traits_with" ["checker","T","name","selection","found","path"] m5,fg 334 326 5 660 45 "callee_within" ["checker","T","name","told","spot","impls","traits"] m5,fg 341 337 3 673 46 "callee_at" ["checker","s","spath","name","regions","told","ahead","path"] m5,fg 348 350 4 687 47 "read_arguments" [] m5,fg 353 354 3 693 48 "form_of" ["checker","path","number"] m5,fg 360 356 4 702 49 "read_variant" [] m5,fg 365 363 4 708 50 "read_box" ["checker","s","es","wanted","inner","made"] m5,fg 372 369 3 720 51 "check_call" ["checker","node","expected","kind","s","f","es","spath","named","callee"] m5]
def t8(P:OF):BT:=bF (t7 P) [[(3,oM 57 (dl P (("__name__",165,m6)::d7))),(12,oJ g7),(379,eT),(380,bP),(381,oM 14 (dl P [("__module__",745,m6),("__qualname__",747,(v "Infer" 746)),("__firstlineno__",749,(.j0 382 748)),("__init__",756,(r 392)),("fresh",763,(r 399)),("fresh_int",770,(r 406)),("shallow",778,(r 413)),("resolved",784,(r 418)),("occurs",795,(r 425)),("bind",804,(r 432)),("are_alike",813,(r 439)),("unify",826,(r 446)),("default_ints",833,(r 453)),("__static_attributes__",836,(r 454))])),(382,eT),(383,oF [(i 384),(i 4),(r 391),(i 388),(i 4),(r 398),(i 393),(i 4),(r 405),(i 396),(i 4),(r 412),(i 401),(i 4),(r 417),(i 405),(i 4),(r 424),(i 414),(i 4),(r 431),(i 424),(i 4),(r 438),(i 431),(i 4),(r 445),(i 448),(i 4),(r 452)]),(384,co "Infer" "Infer" 740 382 0 0 382 R0 383 .H0 .H0 .H0 743),(385,oR 384 381 m6)],fG 386 384 1 750 (me 53 0) "__init__" "Infer.__init__" ["self"] m6 .H0,fG 393 388 1 757 (me 53 1) "fresh" "Infer.fresh" ["self"] m6 .H0,fG 400 393 1 764 (me 53 2) "fresh_int" "Infer.fresh_int" ["self"] m6 .H0,fG 407 396 2 771 (me 53 3) "shallow" "Infer.shallow" ["self","told"] m6 .H0,fG 414 401 2 779 (me 53 4) "resolved" "Infer.resolved" [] m6 .H0,fG 419 405 3 785 (me 53 5) "occurs" "Infer.occurs" ["self","unknown","told","left","here"] m6 .H0,fG 426 414 3 796 (me 53 6) "bind" "Infer.bind" ["self","unknown","told"] m6 .H0,fG 433 424 3 805 (me 53 7) "are_alike" "Infer.are_alike" ["self","one","other"] m6 .H0,fG 440 431 3 814 (me 53 8) "unify" "Infer.unify" ["self","one","other","left","here","there","told"] m6 .H0,fG 447 448 1 827 (me 53 9) "default_ints" "Infer.default_ints" ["self"] m6 .H0,[(454,oV 834 ["is_number","known"]),(455,oM 4 (dl P [("__module__",745,m6),("__firstlineno__",749,(.j0 382 748)),("__init__",756,(r 392)),("fresh",763,(r 399)),("fresh_int",770,(r 406)),("shallow",778,(r 413)),("resolved",784,(r 418)),("occurs",795,(r 425)),("bind",804,(r 432)),("are_alike",813,(r 439)),("unify",826,(r 446)),("default_ints",833,(r 453)),("__static_attributes__",836,(r 454)),("__dict__",838,(r 457)),("__weakref__",840,(r 458)),("__doc__",841,.H0)])),(456,kO "Infer" 456 455 738 746),(457,gD 837 456),(458,gW 839 456),(459,oS 456),(460,bI 456)]]
def t9(P:OF):BT:=bF (t8 P) [[(3,oM 59 (dl P (("__name__",165,m7)::d8))),(12,oJ g8),(461,oV 846 ["i8","i16","i32","i64","u8","u16","u32","u64","usize"]),(462,eT),(463,bP),(464,oM 11 (dl P [("__module__",863,m7),("__qualname__",865,(v "Reader" 864)),("__firstlineno__",867,(.j0 452 866)),("__init__",879,(r 475)),("read",885,(r 480)),("unknown",892,(r 487)),("path",898,(r 492)),("single",910,(r 499)),("bare",920,(r 506)),("named",926,(r 511)),("__static_attributes__",932,(r 512))])),(465,eT),(466,oF [(i 454),(i 4),(r 474),(i 461),(i 4),(r 479),(i 475),(i 4),(r 486),(i 478),(i 4),(r 491),(i 489),(i 4),(r 498),(i 505),(i 4),(r 505),(i 510),(i 4),(r 510)]),(467,co "Reader" "Reader" 858 452 0 0 465 R0 466 .H0 .H0 .H0 861),(468,oR 467 464 m7)],fG 469 454 6 868 (me 56 0) "__init__" "Reader.__init__" ["self","modules","module","generics","self_type","fresh"] m7 .H0,fG 476 461 2 880 (me 56 1) "read" "Reader.read" [] m7 .H0,fG 481 475 1 886 (me 56 2) "unknown" "Reader.unknown" ["self"] m7 .H0,fG 488 478 3 893 (me 56 3) "path" "Reader.path" [] m7 .H0,fG 493 489 3 899 (me 56 4) "single" "Reader.single" ["self","spot","row","name","regions","types"] m7 .H0,fG 500 505 4 911 (me 56 5) "bare" "Reader.bare" ["self","spot","row","told"] m7 .H0,fG 507 510 4 921 (me 56 6) "named" "Reader.named" [] m7 .H0,[(512,oV 927 ["fresh","generics","module","modules","self_type"]),(513,oM 4 (dl P [("__module__",863,m7),("__firstlineno__",867,(.j0 452 866)),("__init__",879,(r 475)),("read",885,(r 480)),("unknown",892,(r 487)),("path",898,(r 492)),("single",910,(r 499)),("bare",920,(r 506)),("named",926,(r 511)),("__static_attributes__",932,(r 512)),("__dict__",934,(r 515)),("__weakref__",936,(r 516)),("__doc__",937,.H0)])),(514,kO "Reader" 514 513 856 864),(515,gD 933 514),(516,gW 935 514),(517,oS 514),(518,bI 514)]]
def Cp(P:OF):BT:=bF (t9 P) [[(3,oM 61 (dl P (("__name__",165,m8)::d9))),(12,oJ g9),(519,oT [.H0])],fG 520 523 6 940 (st 57) "type_of" "type_of" ["modules","module","generics","self_type","written","fresh"] m7 (r 519)]
def Dp(P:OF):BT:=bF (Cp P) [[(3,oM 62 (dl P (("__name__",165,m8)::d10))),(12,oJ g10),(527,eT),(528,bP),(529,oM 27 (dl P [("__module__",963,m8),("__qualname__",965,(v "Checker" 964)),("__firstlineno__",967,(.j0 527 966)),("__init__",979,(r 540)),("expr",988,(r 547)),("fault",997,(r 554)),("fresh",1004,(r 561)),("resolved",1012,(r 568)),("unify",1023,(r 575)),("typex",1032,(r 582)),("open",1039,(r 589)),("close",1046,(r 596)),("new_local",1056,(r 603)),("declare",1067,(r 610)),("local",1076,(r 617)),("adt_type",1082,(r 622)),("variant_of",1091,(r 629)),("types_told",1101,(r 636)),("value_path",1117,(r 643)),("own_path",1123,(r 648)),("variant_path",1132,(r 655)),("own_variant",1141,(r 662)),("enter",1151,(r 669)),("loop_of",1160,(r 676)),("coerce",1171,(r 683)),("made_anew",1185,(r 690)),("__static_attributes__",1198,(r 691))])),(530,eT),(531,oF [(i 529),(i 4),(r 539),(i 543),(i 4),(r 546),(i 546),(i 4),(r 553),(i 549),(i 4),(r 560),(i 552),(i 4),(r 567),(i 555),(i 4),(r 574),(i 561),(i 4),(r 581),(i 565),(i 4),(r 588),(i 568),(i 4),(r 595),(i 571),(i 4),(r 602),(i 574),(i 4),(r 609),(i 577),(i 4),(r 616),(i 583),(i 4),(r 621),(i 592),(i 4),(r 628),(i 595),(i 4),(r 635),(i 601),(i 4),(r 642),(i 617),(i 4),(r 647),(i 629),(i 4),(r 654),(i 632),(i 4),(r 661),(i 635),(i 4),(r 668),(i 638),(i 4),(r 675),(i 641),(i 4),(r 682),(i 650),(i 4),(r 689)]),(532,co "Checker" "Checker" 958 527 0 0 530 R0 531 .H0 .H0 .H0 961),(533,oR 532 529 m8)],fG 534 529 6 968 (me 60 0) "__init__" "Checker.__init__" ["self","world","module","self_type","bounds","reader"] m8 .H0,fG 541 543 3 980 (me 60 1) "expr" "Checker.expr" ["self","node","wanted"] m8 .H0,fG 548 546 3 989 (me 60 2) "fault" "Checker.fault" ["self","message","spot"] m8 .H0,fG 555 549 1 998 (me 60 3) "fresh" "Checker.fresh" ["self"] m8 .H0,fG 562 552 2 1005 (me 60 4) "resolved" "Checker.resolved" ["self","told"] m8 .H0,fG 569 555 4 1013 (me 60 5) "unify" "Checker.unify" ["self","one","other","spot","found"] m8 .H0,fG 576 561 2 1024 (me 60 6) "typex" "Checker.typex" ["self","written","names"] m8 .H0,fG 583 565 1 1033 (me 60 7) "open" "Checker.open" ["self"] m8 .H0,fG 590 568 1 1040 (me 60 8) "close" "Checker.close" ["self"] m8 .H0,fG 597 571 4 1047 (me 60 9) "new_local" "Checker.new_local" ["self","name","told","is_mut"] m8 .H0,fG 604 574 5 1057 (me 60 10) "declare" "Checker.declare" ["self","name","told","is_mut","spot"] m8 .H0,fG 611 577 2 1068 (me 60 11) "local" "Checker.local" ["self","name","scope"] m8 .H0,fG 618 583 3 1077 (me 60 12) "adt_type" "Checker.adt_type" [] m8 .H0,fG 623 592 3 1083 (me 60 13) "variant_of" "Checker.variant_of" ["self","spot","spath"] m8 .H0,fG 630 595 3 1092 (me 60 14) "types_told" "Checker.types_told" ["self","owner","spath","told"] m8 .H0,fG 637 601 3 1102 (me 60 15) "value_path" "Checker.value_path" ["self","spath","spot","path","owner","number","kind","told","made","module"] m8 .H0,fG 644 617 3 1118 (me 60 16) "own_path" "Checker.own_path" [] m8 .H0,fG 649 629 3 1124 (me 60 17) "variant_path" "Checker.variant_path" ["self","spot","names"] m8 .H0,fG 656 632 3 1133 (me 60 18) "own_variant" "Checker.own_variant" ["self","spot","spath"] m8 .H0,fG 663 635 4 1142 (me 60 19) "enter" "Checker.enter" ["self","label","result","has_value"] m8 .H0,fG 670 638 3 1152 (me 60 20) "loop_of" "Checker.loop_of" ["self","label","spot"] m8 .H0,fG 677 641 3 1161 (me 60 21) "coerce" "Checker.coerce" ["self","made","told","here","wanted"] m8 .H0,fG 684 650 4 1172 (me 60 22) "made_anew" "Checker.made_anew" ["self","made","here","wanted","spot","inner","led","goal"] m8 .H0,[(691,oV 1186 ["bounds","infer","locals","loops","many_loops","module","owed","reader","result","scopes","self_type","world"]),(692,oM 4 (dl P [("__module__",963,m8),("__firstlineno__",967,(.j0 527 966)),("__init__",979,(r 540)),("expr",988,(r 547)),("fault",997,(r 554)),("fresh",1004,(r 561)),("resolved",1012,(r 568)),("unify",1023,(r 575)),("typex",1032,(r 582)),("open",1039,(r 589)),("close",1046,(r 596)),("new_local",1056,(r 603)),("declare",1067,(r 610)),("local",1076,(r 617)),("adt_type",1082,(r 622)),("variant_of",1091,(r 629)),("types_told",1101,(r 636)),("value_path",1117,(r 643)),("own_path",1123,(r 648)),("variant_path",1132,(r 655)),("own_variant",1141,(r 662)),("enter",1151,(r 669)),("loop_of",1160,(r 676)),("coerce",1171,(r 683)),("made_anew",1185,(r 690)),("__static_attributes__",1198,(r 691)),("__dict__",1200,(r 694)),("__weakref__",1202,(r 695)),("__doc__",1203,.H0)])),(693,kO "Checker" 693 692 956 964),(694,gD 1199 693),(695,gW 1201 693),(696,oS 693),(697,bI 693)]]
def Ep(P:OF):BT:=bF (Dp P) [[(3,oM 66 (dl P (("__name__",165,m9)::d11))),(12,oJ g11)],fg 698 660 1 1206 61 "names_in" [] m8,fg 703 662 1 1212 62 "plain_value" ["made"] m8,fg 710 668 1 1219 63 "is_held" ["made"] m8,[(717,eT),(718,bP),(719,oM 5 (dl P [("__module__",1235,m9),("__qualname__",1237,(v "Adt" 1236)),("__firstlineno__",1239,(.j0 673 1238)),("__init__",1254,(r 732)),("__static_attributes__",1262,(r 733))])),(720,eT),(721,oF [(i 675),(i 4),(r 731)]),(722,co "Adt" "Adt" 1230 673 0 0 720 R0 721 .H0 .H0 .H0 1233),(723,oR 722 719 m9),(724,eT),(725,oT [(v "" 1240),(r 724)])],fG 726 675 8 1241 (me 65 0) "__init__" "Adt.__init__" ["self","path","regions","params","variants","is_enum","module","publics"] m9 (r 725),[(733,oV 1255 ["is_enum","module","params","path","publics","regions","variants"]),(734,oM 4 (dl P [("__module__",1235,m9),("__firstlineno__",1239,(.j0 673 1238)),("__init__",1254,(r 732)),("__static_attributes__",1262,(r 733)),("__dict__",1264,(r 736)),("__weakref__",1266,(r 737)),("__doc__",1267,.H0)])),(735,kO "Adt" 735 734 1228 1236),(736,gD 1263 735),(737,gW 1265 735),(738,oS 735),(739,bI 735)]]
def Gp(P:OF):BT:=bF (Ep P) [[(3,oM 67 (dl P (("__name__",165,m9)::d12))),(12,oJ g12),(740,eT),(741,bP),(742,oM 5 (dl P [("__module__",1277,m9),("__qualname__",1279,(v "Sig" 1278)),("__firstlineno__",1281,(.j0 683 1280)),("__init__",1296,(r 753)),("__static_attributes__",1305,(r 754))])),(743,eT),(744,oF [(i 685),(i 4),(r 752)]),(745,co "Sig" "Sig" 1272 683 0 0 743 R0 744 .H0 .H0 .H0 1275),(746,oR 745 742 m9)],fG 747 685 9 1282 (me 66 0) "__init__" "Sig.__init__" ["self","path","regions","params","own","inputs","output","self_kind","has_body"] m9 .H0,[(754,oV 1297 ["has_body","inputs","output","own","params","path","regions","self_kind"]),(755,oM 4 (dl P [("__module__",1277,m9),("__firstlineno__",1281,(.j0 683 1280)),("__init__",1296,(r 753)),("__static_attributes__",1305,(r 754)),("__dict__",1307,(r 757)),("__weakref__",1309,(r 758)),("__doc__",1310,.H0)])),(756,kO "Sig" 756 755 1270 1278),(757,gD 1306 756),(758,gW 1308 756),(759,oS 756),(760,bI 756)]]
def Hp(P:OF):BT:=bF (Gp P) [[(3,oM 68 (dl P (("__name__",165,m9)::d13))),(12,oJ g13),(761,eT),(762,bP),(763,oM 5 (dl P [("__module__",1320,m9),("__qualname__",1322,(v "TraitRow" 1321)),("__firstlineno__",1324,(.j0 694 1323)),("__init__",1335,(r 774)),("__static_attributes__",1340,(r 775))])),(764,eT),(765,oF [(i 696),(i 4),(r 773)]),(766,co "TraitRow" "TraitRow" 1315 694 0 0 764 R0 765 .H0 .H0 .H0 1318),(767,oR 766 763 m9)],fG 768 696 5 1325 (me 67 0) "__init__" "TraitRow.__init__" ["self","path","params","methods","defaults"] m9 .H0,[(775,oV 1336 ["defaults","methods","params","path"]),(776,oM 4 (dl P [("__module__",1320,m9),("__firstlineno__",1324,(.j0 694 1323)),("__init__",1335,(r 774)),("__static_attributes__",1340,(r 775)),("__dict__",1342,(r 778)),("__weakref__",1344,(r 779)),("__doc__",1345,.H0)])),(777,kO "TraitRow" 777 776 1313 1321),(778,gD 1341 777),(779,gW 1343 777),(780,oS 777),(781,bI 777)]]
def Ip(P:OF):BT:=bF (Hp P) [[(3,oM 69 (dl P (("__name__",165,m9)::d14))),(12,oJ g14),(782,eT),(783,bP),(784,oM 5 (dl P [("__module__",1355,m9),("__qualname__",1357,(v "ImplRow" 1356)),("__firstlineno__",1359,(.j0 701 1358)),("__init__",1375,(r 796)),("__static_attributes__",1384,(r 797))])),(785,eT),(786,oF [(i 703),(i 4),(r 795)]),(787,co "ImplRow" "ImplRow" 1350 701 0 0 785 R0 786 .H0 .H0 .H0 1353),(788,oR 787 784 m9),(789,oT [(.j0 0 1360)])],fG 790 703 9 1361 (me 68 0) "__init__" "ImplRow.__init__" ["self","number","regions","params","trait","trait_args","self_type","methods","spot"] m9 (r 789),[(797,oV 1376 ["methods","number","params","regions","self_type","spot","trait","trait_args"]),(798,oM 4 (dl P [("__module__",1355,m9),("__firstlineno__",1359,(.j0 701 1358)),("__init__",1375,(r 796)),("__static_attributes__",1384,(r 797)),("__dict__",1386,(r 800)),("__weakref__",1388,(r 801)),("__doc__",1389,.H0)])),(799,kO "ImplRow" 799 798 1348 1356),(800,gD 1385 799),(801,gW 1387 799),(802,oS 799),(803,bI 799)]]
def Jp(P:OF):BT:=bF (Ip P) [[(3,oM 77 (dl P (("__name__",165,qE)::d15))),(12,oJ g15),(804,eT),(805,bP),(806,oM 6 (dl P [("__module__",1399,m9),("__qualname__",1401,(v "World" 1400)),("__firstlineno__",1403,(.j0 712 1402)),("__init__",1411,(r 818)),("is_field_seen",1422,(r 825)),("__static_attributes__",1431,(r 826))])),(807,eT),(808,oF [(i 714),(i 4),(r 817),(i 724),(i 4),(r 824)]),(809,co "World" "World" 1394 712 0 0 807 R0 808 .H0 .H0 .H0 1397),(810,oR 809 806 m9),(811,oT [.H0])],fG 812 714 2 1404 (me 69 0) "__init__" "World.__init__" ["self","modules"] m9 (r 811),fG 819 724 5 1412 (me 69 1) "is_field_seen" "World.is_field_seen" ["self","path","number","k","module"] m9 .H0,[(826,oV 1423 ["adts","bodies","consts","impls","modules","sigs","traits","variants"]),(827,oM 4 (dl P [("__module__",1399,m9),("__firstlineno__",1403,(.j0 712 1402)),("__init__",1411,(r 818)),("is_field_seen",1422,(r 825)),("__static_attributes__",1431,(r 826)),("__dict__",1433,(r 829)),("__weakref__",1435,(r 830)),("__doc__",1436,.H0)])),(828,kO "World" 828 827 1392 1400),(829,gD 1432 828),(830,gW 1434 828),(831,oS 828),(832,bI 828)],fg 833 727 2 1441 71 "_law_pool" ["script","k","cell","big","mixed"] qE,fg 840 732 2 1452 72 "_law_take" ["source","top","drawn"] qE,fg 847 739 2 1461 73 "_law_one" ["source","things"] qE,[(854,oV 1469 ["int","u8"]),(855,oV 1472 ["param","T"]),(856,oV 1475 ["param","U"]),(857,oT [(.j0 0 1478)])],fG 858 744 4 1479 (st 77) "_law_find" "_law_find" ["module","names","space","spot","path"] qE (r 857)]
def uX(P:OF):BT:=bF (Jp P) [[(3,oM 90 (dl P (("__name__",165,qE)::d16))),(12,oJ g16)],fg 865 749 0 1490 78 "_law_world" ["world","pair","own","few","both","path","whole","one"] qE,fg 872 769 0 1504 79 "_law_checker" ["reader"] qE,fg 879 773 0 1511 80 "_law_rows" ["pair","own","make","go"] qE,fg 886 778 3 1521 81 "_law_fit" ["pattern","told","table"] qE,fg 893 784 2 1530 82 "_law_put" [] qE,fg 898 792 2 1536 83 "_law_closed" ["source","deep","way"] qE,fg 905 797 1 1545 84 "_law_written" ["T"] qE,fg 912 803 1 1552 85 "_law_has" ["T"] qE,fg 919 805 3 1559 86 "_law_due" [] qE,fg 924 817 3 1565 87 "_law_told" [] qE,fg 929 844 2 1571 88 "_law_call_right" [] qE,fg 934 869 0 1577 89 "_law_refused_right" [] qE,fg 939 877 1 1583 90 "law" [] qE]
def iA:o6:={w8:=IN,jp:=mainNs,dE:=mainNs,CU:=[],bA:=.J0 13,HD:=E0 14}
def L7:Code:=.P4 (Kt pw) iA
noncomputable abbrev z0:T3:=⟨0,0,0,0⟩
def sl(a n:C0):P0 P5:=(pb.TF a).VJ n
noncomputable abbrev aB:=wD.tw14364793385576792824
noncomputable abbrev WF:=@wD.tw10110043849684766642
noncomputable abbrev GB:Q1 K0:=E0 (.J0 6)
theorem p0(w:N4):(λ os=>WF aB pw w 11 GB 1 271 ⟨t0 O5,15,{},#[],{},187,os⟩ (rF (sl 0 3) iA L7 ⟨0,0,0,0⟩ [DD z0]))=
  λ os=>E0 (.W4,⟨t1 O5,43,{},#[],{},228,os⟩,L7,⟨5,0,10,24⟩):=by kernel_rfl
theorem p1(w:N4):(λ os=>WF aB pw w 11 GB 1 427 ⟨t1 O5,43,{},#[],{},228,os⟩ (rF (sl 3 2) iA L7 ⟨5,0,10,24⟩ [DD z0]))=
  λ os=>E0 (.W4,⟨t2 O5,67,{},#[],{},260,os⟩,L7,⟨13,0,14,8⟩):=by kernel_rfl
theorem p2(w:N4):(λ os=>WF aB pw w 11 GB 1 438 ⟨t2 O5,67,{},#[],{},260,os⟩ (rF (sl 5 10) iA L7 ⟨13,0,14,8⟩ [DD z0]))=
  λ os=>E0 (.W4,⟨t3 O5,119,{},#[],{},349,os⟩,L7,⟨91,0,92,49⟩):=by kernel_rfl
theorem p3(w:N4):(λ os=>WF aB pw w 11 GB 1 440 ⟨t3 O5,119,{},#[],{},349,os⟩ (rF (sl 15 5) iA L7 ⟨91,0,92,49⟩ [DD z0]))=
  λ os=>E0 (.W4,⟨t4 O5,180,{},#[],{},441,os⟩,L7,⟨153,0,153,4⟩):=by kernel_rfl
theorem p4(w:N4):(λ os=>WF aB pw w 11 GB 1 434 ⟨t4 O5,180,{},#[],{},441,os⟩ (rF (sl 20 16) iA L7 ⟨153,0,153,4⟩ [DD z0]))=
  λ os=>E0 (.W4,⟨t5 O5,267,{},#[],{},562,os⟩,L7,⟨243,0,248,60⟩):=by kernel_rfl
theorem p5(w:N4):(λ os=>WF aB pw w 11 GB 1 424 ⟨t5 O5,267,{},#[],{},562,os⟩ (rF (sl 36 8) iA L7 ⟨243,0,248,60⟩ [DD z0]))=
  λ os=>E0 (.W4,⟨t6 O5,327,{},#[],{},648,os⟩,L7,⟨313,0,318,16⟩):=by kernel_rfl
theorem p6(w:N4):(λ os=>WF aB pw w 11 GB 1 270 ⟨t6 O5,327,{},#[],{},648,os⟩ (rF (sl 44 9) iA L7 ⟨313,0,318,16⟩ [DD z0]))=
  λ os=>E0 (.W4,⟨t7 O5,379,{},#[],{},738,os⟩,L7,⟨381,0,381,8⟩):=by kernel_rfl
theorem p7(w:N4):(λ os=>WF aB pw w 11 GB 1 514 ⟨t7 O5,379,{},#[],{},738,os⟩ (rF (sl 53 1) iA L7 ⟨381,0,381,8⟩ [DD z0]))=
  λ os=>E0 (.W4,⟨t8 O5,461,{},#[],{},844,os⟩,L7,⟨382,0,449,16⟩):=by kernel_rfl
theorem p8(w:N4):(λ os=>WF aB pw w 11 GB 1 444 ⟨t8 O5,461,{},#[],{},844,os⟩ (rF (sl 54 3) iA L7 ⟨382,0,449,16⟩ [DD z0]))=
  λ os=>E0 (.W4,⟨t9 O5,519,{},#[],{},940,os⟩,L7,⟨452,0,522,78⟩):=by kernel_rfl
theorem p9(w:N4):(λ os=>WF aB pw w 11 GB 1 54 ⟨t9 O5,519,{},#[],{},940,os⟩ (rF (sl 57 3) iA L7 ⟨452,0,522,78⟩ [DD z0]))=
  λ os=>E0 (.W4,⟨Cp O5,527,{},#[],{},956,os⟩,L7,⟨526,0,526,4⟩):=by kernel_rfl
theorem p10(w:N4):(λ os=>WF aB pw w 11 GB 1 968 ⟨Cp O5,527,{},#[],{},956,os⟩ (rF (sl 60 1) iA L7 ⟨526,0,526,4⟩ [DD z0]))=
  λ os=>E0 (.W4,⟨Dp O5,698,{},#[],{},1206,os⟩,L7,⟨527,0,659,103⟩):=by kernel_rfl
theorem p11(w:N4):(λ os=>WF aB pw w 11 GB 1 332 ⟨Dp O5,698,{},#[],{},1206,os⟩ (rF (sl 61 5) iA L7 ⟨527,0,659,103⟩ [DD z0]))=
  λ os=>E0 (.W4,⟨Ep O5,740,{},#[],{},1270,os⟩,L7,⟨673,0,682,30⟩):=by kernel_rfl
theorem p12(w:N4):(λ os=>WF aB pw w 11 GB 1 237 ⟨Ep O5,740,{},#[],{},1270,os⟩ (rF (sl 66 1) iA L7 ⟨673,0,682,30⟩ [DD z0]))=
  λ os=>E0 (.W4,⟨Gp O5,761,{},#[],{},1313,os⟩,L7,⟨683,0,693,32⟩):=by kernel_rfl
theorem p13(w:N4):(λ os=>WF aB pw w 11 GB 1 229 ⟨Gp O5,761,{},#[],{},1313,os⟩ (rF (sl 67 1) iA L7 ⟨683,0,693,32⟩ [DD z0]))=
  λ os=>E0 (.W4,⟨Hp O5,782,{},#[],{},1348,os⟩,L7,⟨694,0,700,32⟩):=by kernel_rfl
theorem p14(w:N4):(λ os=>WF aB pw w 11 GB 1 239 ⟨Hp O5,782,{},#[],{},1348,os⟩ (rF (sl 68 1) iA L7 ⟨694,0,700,32⟩ [DD z0]))=
  λ os=>E0 (.W4,⟨Ip O5,804,{},#[],{},1392,os⟩,L7,⟨701,0,711,24⟩):=by kernel_rfl
theorem p15(w:N4):(λ os=>WF aB pw w 11 GB 1 440 ⟨Ip O5,804,{},#[],{},1392,os⟩ (rF (sl 69 9) iA L7 ⟨701,0,711,24⟩ [DD z0]))=
  λ os=>E0 (.W4,⟨Jp O5,865,{},#[],{},1490,os⟩,L7,⟨744,0,748,15⟩):=by kernel_rfl
theorem p16(w:N4):(λ os=>WF aB pw w 11 GB 1 374 ⟨Jp O5,865,{},#[],{},1490,os⟩ (rF (sl 78 13) iA L7 ⟨744,0,748,15⟩ [DD z0]))=
  λ os=>E0 (.W4,⟨uX O5,944,{},#[],{},1589,os⟩,L7,⟨877,0,887,31⟩):=by kernel_rfl
theorem QO(w:N4):(λ os=>wD.tw15667345088766844465 aB pw w 11 GB 12 ⟨TP O5,#[],lw,Ix,os⟩ (SA0 pw))=
  λ os=>E0 (⟨kN (t0 O5) 15 {},#[],{},187,os⟩,⟨wD.tw11892475500146522536 aB L7,L7,z0,[DD z0]⟩):=by kernel_rfl
theorem blk(w:N4):(λ os=>wD.tw14374325043358763698 aB pw w 11 GB 1 1 ⟨kN (t0 O5) 15 {},#[],{},187,os⟩ (blockOf (Kt pw) iA L7 z0 [DD z0]))=
  λ os=>E0 (.W4,⟨kN (t0 O5) 15 {},#[],{},187,os⟩,L7,z0):=by kernel_rfl
theorem O6(w:N4):(λ os=>wD.nS0 aB pw w 11 GB 2 ⟨kN (uX O5) 944 {},#[],{},1589,os⟩ ⟨doneF .W4,L7,⟨877,0,887,31⟩,[DD z0]⟩)=
  λ os=>E0 ⟨kN (uX O5) 944 {},#[],{},1589,os⟩:=by kernel_rfl
theorem iB0:Kt pw=sl 0 3++(sl 3 2++(sl 5 10++(sl 15 5++(sl 20 16++(sl 36 8++(sl 44 9++(sl 53 1++(sl 54 3++(sl 57 3++(sl 60 1++(sl 61 5++(sl 66 1++(sl 67 1++(sl 68 1++(sl 69 9++(sl 78 13++([]))))))))))))))))):=by kernel_rfl
theorem sg{w:N4}{n n₁ n₂ k₁ k₂:C0}{T₁ T₂:BT}{l:P0 P5}{a b:T3}
  (h:(λ os=>WF aB pw w 11 GB 1 n ⟨T₁,n₁,{},#[],{},k₁,os⟩ (rF l iA L7 a [DD z0]))=λ os=>E0 (.W4,⟨T₂,n₂,{},#[],{},k₂,os⟩,L7,b))(os:Tm):
  segRun yZ pw w 11 GB 1 n ⟨kN T₁ n₁ {},#[],{},k₁,os⟩ (rF l iA L7 a [DD z0])=E0 (.W4,⟨kN T₂ n₂ {},#[],{},k₂,os⟩,L7,b):=by
 have h':=Lm h os;dsimp only[WF,aB]at h';rw[<-wD.te10110043849684766642,<-sp]at h';exact segRun_of h'
theorem tr{w:N4}{n:C0}{s s':Tm->D1}{t:Thread}(h:(λ os=>wD.nS0 aB pw w 11 GB n (s os) t)=λ os=>E0 (s' os))(os:Tm):
  topRun yZ pw w 11 GB n (s os) t=E0 (s' os):=by
 have h':=Lm h os;dsimp only[aB]at h';rw[<-wD.te14082659384304107361,<-sp]at h';exact h'
theorem nD(w:N4)(os:Tm):topRun yZ pw w 11 GB 6550 ⟨TP O5,#[],lw,Ix,os⟩ (SA0 pw)=E0 ⟨kN (uX O5) 944 {},#[],{},1589,os⟩:=by
 have hp:topGo yZ pw w 11 GB 12 ⟨TP O5,#[],lw,Ix,os⟩ (SA0 pw)=E0 (⟨kN (t0 O5) 15 {},#[],{},187,os⟩,⟨denote yZ L7,L7,z0,[DD z0]⟩):=by
  have h':=Lm (QO w) os;dsimp only[aB]at h';rw[<-wD.te15667345088766844465,<-wD.te11892475500146522536,<-sp]at h';exact h'
 have hb:segRun yZ pw w 11 GB 1 1 ⟨kN (t0 O5) 15 {},#[],{},187,os⟩ (blockOf (Kt pw) iA L7 z0 [DD z0])=E0 (.W4,⟨kN (t0 O5) 15 {},#[],{},187,os⟩,L7,z0):=by
  have h':=Lm (blk w) os;dsimp only[aB]at h';rw[<-wD.te14374325043358763698,<-sp]at h';exact h'
 have hr:=(OH (sg (p0 w) os) (OH (sg (p1 w) os) (OH (sg (p2 w) os) (OH (sg (p3 w) os) (OH (sg (p4 w) os) (OH (sg (p5 w) os) (OH (sg (p6 w) os) (OH (sg (p7 w) os) (OH (sg (p8 w) os) (OH (sg (p9 w) os) (OH (sg (p10 w) os) (OH (sg (p11 w) os) (OH (sg (p12 w) os) (OH (sg (p13 w) os) (OH (sg (p14 w) os) (OH (sg (p15 w) os) (OH (sg (p16 w) os) (piece_nil (tr (O6 w) os)))))))))))))))))));rw[<-iB0]at hr;exact go_top hp (piece_block hb hr)
theorem open_:∀w:N4,(fencedOpening yZ pw w 20000).Y4 (λ s=>(W0,s.gens,s.drawn,X4))=E0 (TP O5,M4.mk [],lw,Ix):=
 boot_open (p:=pw) (by kernel_rfl) (by decide) (λ s=>by kernel_rfl)
theorem jB0:∀w:N4,((TP O5).isNs OP&&(#[]:M4 GenState).L9==0,(TP O5).SC.L9,(TP O5).nsMap OP "__annotations__")=(I0,11,GB):=λ w=>by kernel_rfl
end
end Mine.Internal.H
end
section
open PySem PySem.W PyProof.Rows
set_option maxRecDepth 100000
set_option maxHeartbeats 0
namespace Mine.Internal.H
noncomputable section
def q:tL:={pw with main:={pw.main with P4:=[st 90]}}
def mR:P0 u0:=pw.boundNames.Xm λ n=>!(n==EA "law")
noncomputable abbrev hf(P:OF):O1:=kN (uX P) 944 {}
theorem kB0:y80 lZ=[]:=by kernel_rfl
theorem IQ(w:N4):lV0 [] (TP O5) (hf O5)=I0:=by kernel_rfl
theorem Za(w:N4):VV0 pw (hf O5)=I0:=by kernel_rfl
theorem lk4(w:N4):IW0 (TP O5) (hf O5)=I0:=by kernel_rfl
theorem lk3(w:N4)(os:Tm):JW0 ⟨hf O5,#[],{},1589,os⟩=I0:=by kernel_rfl
theorem lk5(w:N4):(λ os=>wD.tw4187177175401517315 q mR [] (λ _=>I0) I0 ⟨hf O5,#[],{},1589,os⟩)=λ _=>KW0 q mR:=by kernel_rfl
theorem looks(w:N4):(λ os=>((lV0 (y80 lZ) (TP O5) (hf O5)&&VV0 pw (hf O5)&&JW0 ⟨hf O5,#[],{},1589,os⟩&&IW0 (TP O5) (hf O5)),
    openSeen q mR (y80 lZ) (λ _=>I0) I0 ⟨hf O5,#[],{},1589,os⟩,(λ s:D1=>W0) ⟨hf O5,#[],{},1589,os⟩))=λ _=>(I0,KW0 q mR,hf O5):=by
 funext os
 rw[kB0,IQ,Za,lk3,lk4,wD.te4187177175401517315];exact nW0 O (nW0 (Lm (lk5 w) os) O)
theorem m_:LeftO pw q mR (λ _=>I0) (λ s:D1=>W0) (λ w:N4=>hf O5) 20000:=
 LeftO.of_pieces (H₁:=λ P=>hf P) open_ jB0 nD (by decide) looks
end
end Mine.Internal.H
end
section
open PySem PySem.W PyProof.Rows
set_option maxRecDepth 100000
set_option maxHeartbeats 0
namespace Mine.Internal.H
noncomputable section
theorem Kp{p:u0->I1}{a:u0}{l:P0 u0}(h:p a=R0):He p (a::l)=He p l:=by
 show@L8 (λ _=>P0 u0) (He p l) (a::He p l) (p a)=_;rw[h]
theorem lB0{s st:I1}{ft:Q1 (P0 u0)}{p:u0->I1}{a b c:u0}{l:P0 P5}(ha:p a=R0)(hb:p b=R0)(hc:p c=R0)(hs:s=st)(h:wD.rS0 {strict:=st,foot:=ft,bare:=[]} l=I0):
  wD.rS0 {strict:=s,foot:=ft,bare:=He p [a,b,c]} l=I0:=by
 have e:He p [a,b,c]=[]:=(Kp ha).U2 ((Kp hb).U2 ((Kp hc).U2 O));rw[e,hs];exact h
theorem mB0:wD.sS0 L80=I0:=by
 delta wD.sS0 wD.tw17960256430627541270 wD.tw2436336058641802641 wD.tw12908688711261696721
 repeat' (with_reducible apply look_both)
 all_goals try(with_reducible apply lB0 (st:=R0))
 all_goals as_aux_lemma=>kernel_rfl
theorem said:L80.wellSaid=I0:=by
 rw[wD.te9446332074065402090];exact mB0
end
end Mine.Internal.H
end
section
open PySem PySem.W PyProof.Rows
set_option maxRecDepth 100000
set_option maxHeartbeats 0
namespace Mine.Internal.H
noncomputable section
def vX:DefRec:=⟨EA "law",fA (st 90),fB (st 90),fS (st 90),⟨877,0,887,31⟩⟩
noncomputable abbrev YP(w:N4)(h:O1):Prop:=∀b o,(hf O5).X5 b=E0 o->C3 b=E0 o
theorem hdef:defOf q (EA "law")=E0 (vX,[]):=by kernel_rfl
theorem hp:pw.theDef (EA "law")=E0 (vX.wC,vX.P4,vX.w8):=by kernel_rfl
theorem nB0:(chainsOk q&&opensWell pw&&(frees ib&&ib.within.jL))=I0:=by kernel_rfl
theorem FA0:ib.FA0:=by w_witness2
theorem ws_app(Y0:cA)(cx:PQ.Ctx)(sc:cA)(m:P0 P5):∀l:P0 P5,HJ QL Y0 cx sc (l++m)=(HJ QL Y0 cx sc l&&HJ QL Y0 cx sc m):=by
 intro l;induction l with
 |B0=>rfl
 |A0 a l ih=>
  show(_&&HJ QL Y0 cx sc (l++m))=((_&&HJ QL Y0 cx sc l)&&HJ QL Y0 cx sc m);rw[ih,I1.and_assoc]
theorem LW0{p:tL}(hm:p.modules=[])(hp:p.parses=[])(hh:p.harvested=[])(k:C0)(n_:P0 u0)(ht:HJ PQ.jA0 wE ⟨wE,[],[],[],H0⟩ wE qZ=n_)
  (hn:PQ.TA0 wE=I0)(h1:HJ QL wE ⟨wE,[],n_,[],H0⟩ wE (qZ.VJ k)=I0)(h2:HJ QL wE ⟨wE,[],n_,[],H0⟩ wE (qZ.TF k)=I0):p.EV0=I0:=by
 have h:HJ QL wE ⟨wE,[],n_,[],H0⟩ wE qZ=I0:=by
  rw[<-NT0 k qZ,ws_app,h1,h2];rfl
 rw[<-ht]at h;show PQ.MW0 QL p=I0;unfold PQ.MW0 PQ.wModule;rw[hm,hp,hh];show((I0&&(PQ.TA0 wE&&(HJ QL wE ⟨wE,[],HJ PQ.jA0 wE ⟨wE,[],[],[],H0⟩ wE qZ,[],H0⟩ wE qZ&&I0)))&&(I0&&(I0&&(I0&&I0))))=I0;rw[hn,h];rfl
theorem n_:HJ PQ.jA0 IN ⟨IN,[],[],[],H0⟩ IN lZ=[]:=by kernel_rfl
theorem twice:PQ.TA0 IN=I0:=by kernel_rfl
theorem whole1:HJ QL IN ⟨IN,[],[],[],H0⟩ IN (lZ.VJ 60)=I0:=by kernel_rfl
theorem whole2:HJ QL IN ⟨IN,[],[],[],H0⟩ IN (lZ.TF 60)=I0:=by kernel_rfl
theorem ZU:pw.EV0=I0:=LW0 O O O 60 [] n_ twice whole1 whole2
theorem J8(K2:WalkO q mR (λ _ _=>rP) YP ib vX [] λ f vs=>X7 f vs):mV0:=
 holds_law said λ hs=>holds_open (r:=rw0.row) (q:=q) (mR:=mR) (Xt:=λ _=>I0) (XP:=λ _ _=>rP) (Yf:=λ s:D1=>W0) (Ya:=λ w:N4=>hf O5) (YP:=YP) (N:=20000)
  m_ (λ w s e b o x=>by rw[e];exact x) (λ w h h' x k b o e=>k _ _ (x _ _ e)) (λ _ _=>FE) (λ _ _ _ _ _=>FE) hdef hp (by rfl)
  (λ s _=>recFacts_of (R:=ib.records) (by rfl)) (by rfl) hs nB0 ⟨O,O,O,O,O,ZU⟩ FA0 K2
end
end Mine.Internal.H
end
section
namespace Mine.Internal
universe u
theorem viaC{G:Prop}(k:∀C:Prop,(G->C)->C):G:=k G λ x=>x
theorem EO{P Q:Prop}{Z:Prop}:(P/\Q)->(P->Q->Z)->Z:=λ h k=>k h.1 h.2
theorem Wn{P Q R:Prop}{Z:Prop}:(P/\Q/\R)->(P->Q->R->Z)->Z:=λ h k=>k h.1 h.2.1 h.2.2
theorem e0n4{P Q R S:Prop}{Z:Prop}:(P/\Q/\R/\S)->(P->Q->R->S->Z)->Z:=λ h k=>k h.1 h.2.1 h.2.2.1 h.2.2.2
theorem e0n5{P Q R S T:Prop}{Z:Prop}:(P/\Q/\R/\S/\T)->(P->Q->R->S->T->Z)->Z:=λ h k=>k h.1 h.2.1 h.2.2.1 h.2.2.2.1 h.2.2.2.2
theorem e0n6{P Q R S T U:Prop}{Z:Prop}:(P/\Q/\R/\S/\T/\U)->(P->Q->R->S->T->U->Z)->Z:=λ h k=>k h.1 h.2.1 h.2.2.1 h.2.2.2.1 h.2.2.2.2.1 h.2.2.2.2.2
theorem e0n7{P Q R S T U V:Prop}{Z:Prop}:(P/\Q/\R/\S/\T/\U/\V)->(P->Q->R->S->T->U->V->Z)->Z:=λ h k=>k h.1 h.2.1 h.2.2.1 h.2.2.2.1 h.2.2.2.2.1 h.2.2.2.2.2.1 h.2.2.2.2.2.2
theorem DM{A:Sort u}{P:A->Prop}{Z:Prop}:(∃a,P a)->(∀a:A,P a->Z)->Z:=λ h k=>u4 λ a h=>k a h
theorem o_{A:Sort u}{P Q:A->Prop}{Z:Prop}:(∃a,P a/\Q a)->(∀a:A,P a->Q a->Z)->Z:=λ h k=>u4 λ a h=>k a h.1 h.2
theorem nU{A:Sort u}{P Q R:A->Prop}{Z:Prop}:(∃a,P a/\Q a/\R a)->(∀a:A,P a->Q a->R a->Z)->Z:=λ h k=>u4 λ a h=>k a h.1 h.2.1 h.2.2
theorem e1n5{A:Sort u}{P Q R S:A->Prop}{Z:Prop}:(∃a,P a/\Q a/\R a/\S a)->(∀a:A,P a->Q a->R a->S a->Z)->Z:=λ h k=>u4 λ a h=>k a h.1 h.2.1 h.2.2.1 h.2.2.2
theorem e1n6{A:Sort u}{P Q R S T:A->Prop}{Z:Prop}:(∃a,P a/\Q a/\R a/\S a/\T a)->(∀a:A,P a->Q a->R a->S a->T a->Z)->Z:=λ h k=>u4 λ a h=>k a h.1 h.2.1 h.2.2.1 h.2.2.2.1 h.2.2.2.2
theorem e2n3{A:Sort u}{B:Sort u}{P:A->B->Prop}{Z:Prop}:(∃a b,P a b)->(∀a:A,∀b:B,P a b->Z)->Z:=λ h k=>u4 λ a h=>u4 λ b h=>k a b h
theorem e2n4{A:Sort u}{B:Sort u}{P Q:A->B->Prop}{Z:Prop}:(∃a b,P a b/\Q a b)->(∀a:A,∀b:B,P a b->Q a b->Z)->Z:=λ h k=>u4 λ a h=>u4 λ b h=>k a b h.1 h.2
theorem e2n5{A:Sort u}{B:Sort u}{P Q R:A->B->Prop}{Z:Prop}:(∃a b,P a b/\Q a b/\R a b)->(∀a:A,∀b:B,P a b->Q a b->R a b->Z)->Z:=λ h k=>u4 λ a h=>u4 λ b h=>k a b h.1 h.2.1 h.2.2
theorem e2n6{A:Sort u}{B:Sort u}{P Q R S:A->B->Prop}{Z:Prop}:(∃a b,P a b/\Q a b/\R a b/\S a b)->(∀a:A,∀b:B,P a b->Q a b->R a b->S a b->Z)->Z:=λ h k=>u4 λ a h=>u4 λ b h=>k a b h.1 h.2.1 h.2.2.1 h.2.2.2
theorem e2n7{A:Sort u}{B:Sort u}{P Q R S T:A->B->Prop}{Z:Prop}:(∃a b,P a b/\Q a b/\R a b/\S a b/\T a b)->(∀a:A,∀b:B,P a b->Q a b->R a b->S a b->T a b->Z)->Z:=λ h k=>u4 λ a h=>u4 λ b h=>k a b h.1 h.2.1 h.2.2.1 h.2.2.2.1 h.2.2.2.2
theorem e3n4{A:Sort u}{B:Sort u}{C:Sort u}{P:A->B->C->Prop}{Z:Prop}:(∃a b c,P a b c)->(∀a:A,∀b:B,∀c:C,P a b c->Z)->Z:=λ h k=>u4 λ a h=>u4 λ b h=>u4 λ c h=>k a b c h
theorem e3n5{A:Sort u}{B:Sort u}{C:Sort u}{P Q:A->B->C->Prop}{Z:Prop}:(∃a b c,P a b c/\Q a b c)->(∀a:A,∀b:B,∀c:C,P a b c->Q a b c->Z)->Z:=λ h k=>u4 λ a h=>u4 λ b h=>u4 λ c h=>k a b c h.1 h.2
theorem e3n6{A:Sort u}{B:Sort u}{C:Sort u}{P Q R:A->B->C->Prop}{Z:Prop}:(∃a b c,P a b c/\Q a b c/\R a b c)->(∀a:A,∀b:B,∀c:C,P a b c->Q a b c->R a b c->Z)->Z:=λ h k=>u4 λ a h=>u4 λ b h=>u4 λ c h=>k a b c h.1 h.2.1 h.2.2
theorem e3n7{A:Sort u}{B:Sort u}{C:Sort u}{P Q R S:A->B->C->Prop}{Z:Prop}:(∃a b c,P a b c/\Q a b c/\R a b c/\S a b c)->(∀a:A,∀b:B,∀c:C,P a b c->Q a b c->R a b c->S a b c->Z)->Z:=λ h k=>u4 λ a h=>u4 λ b h=>u4 λ c h=>k a b c h.1 h.2.1 h.2.2.1 h.2.2.2
theorem e3n8{A:Sort u}{B:Sort u}{C:Sort u}{P Q R S T:A->B->C->Prop}{Z:Prop}:(∃a b c,P a b c/\Q a b c/\R a b c/\S a b c/\T a b c)->(∀a:A,∀b:B,∀c:C,P a b c->Q a b c->R a b c->S a b c->T a b c->Z)->Z:=λ h k=>u4 λ a h=>u4 λ b h=>u4 λ c h=>k a b c h.1 h.2.1 h.2.2.1 h.2.2.2.1 h.2.2.2.2
theorem e3n9{A:Sort u}{B:Sort u}{C:Sort u}{P Q R S T U:A->B->C->Prop}{Z:Prop}:(∃a b c,P a b c/\Q a b c/\R a b c/\S a b c/\T a b c/\U a b c)->(∀a:A,∀b:B,∀c:C,P a b c->Q a b c->R a b c->S a b c->T a b c->U a b c->Z)->Z:=λ h k=>u4 λ a h=>u4 λ b h=>u4 λ c h=>k a b c h.1 h.2.1 h.2.2.1 h.2.2.2.1 h.2.2.2.2.1 h.2.2.2.2.2
theorem e4n5{A:Sort u}{B:Sort u}{C:Sort u}{D:Sort u}{P:A->B->C->D->Prop}{Z:Prop}:(∃a b c d,P a b c d)->(∀a:A,∀b:B,∀c:C,∀d:D,P a b c d->Z)->Z:=λ h k=>u4 λ a h=>u4 λ b h=>u4 λ c h=>u4 λ d h=>k a b c d h
theorem e4n6{A:Sort u}{B:Sort u}{C:Sort u}{D:Sort u}{P Q:A->B->C->D->Prop}{Z:Prop}:(∃a b c d,P a b c d/\Q a b c d)->(∀a:A,∀b:B,∀c:C,∀d:D,P a b c d->Q a b c d->Z)->Z:=λ h k=>u4 λ a h=>u4 λ b h=>u4 λ c h=>u4 λ d h=>k a b c d h.1 h.2
theorem e4n7{A:Sort u}{B:Sort u}{C:Sort u}{D:Sort u}{P Q R:A->B->C->D->Prop}{Z:Prop}:(∃a b c d,P a b c d/\Q a b c d/\R a b c d)->(∀a:A,∀b:B,∀c:C,∀d:D,P a b c d->Q a b c d->R a b c d->Z)->Z:=λ h k=>u4 λ a h=>u4 λ b h=>u4 λ c h=>u4 λ d h=>k a b c d h.1 h.2.1 h.2.2
theorem e4n8{A:Sort u}{B:Sort u}{C:Sort u}{D:Sort u}{P Q R S:A->B->C->D->Prop}{Z:Prop}:(∃a b c d,P a b c d/\Q a b c d/\R a b c d/\S a b c d)->(∀a:A,∀b:B,∀c:C,∀d:D,P a b c d->Q a b c d->R a b c d->S a b c d->Z)->Z:=λ h k=>u4 λ a h=>u4 λ b h=>u4 λ c h=>u4 λ d h=>k a b c d h.1 h.2.1 h.2.2.1 h.2.2.2
theorem e4n9{A:Sort u}{B:Sort u}{C:Sort u}{D:Sort u}{P Q R S T:A->B->C->D->Prop}{Z:Prop}:(∃a b c d,P a b c d/\Q a b c d/\R a b c d/\S a b c d/\T a b c d)->(∀a:A,∀b:B,∀c:C,∀d:D,P a b c d->Q a b c d->R a b c d->S a b c d->T a b c d->Z)->Z:=λ h k=>u4 λ a h=>u4 λ b h=>u4 λ c h=>u4 λ d h=>k a b c d h.1 h.2.1 h.2.2.1 h.2.2.2.1 h.2.2.2.2
theorem e5n9{A:Sort u}{B:Sort u}{C:Sort u}{D:Sort u}{E:Sort u}{P Q R S:A->B->C->D->E->Prop}{Z:Prop}:(∃a b c d e,P a b c d e/\Q a b c d e/\R a b c d e/\S a b c d e)->(∀a:A,∀b:B,∀c:C,∀d:D,∀e:E,P a b c d e->Q a b c d e->R a b c d e->S a b c d e->Z)->Z:=λ h k=>u4 λ a h=>u4 λ b h=>u4 λ c h=>u4 λ d h=>u4 λ e h=>k a b c d e h.1 h.2.1 h.2.2.1 h.2.2.2
theorem i1n3{A:Sort u}{P Q:A->Prop}(a:A)(h0:P a)(h1:Q a):∃a,P a/\Q a:=⟨a,h0,h1⟩
theorem i1n4{A:Sort u}{P Q R:A->Prop}(a:A)(h0:P a)(h1:Q a)(h2:R a):∃a,P a/\Q a/\R a:=⟨a,h0,h1,h2⟩
theorem i1n5{A:Sort u}{P Q R S:A->Prop}(a:A)(h0:P a)(h1:Q a)(h2:R a)(h3:S a):∃a,P a/\Q a/\R a/\S a:=⟨a,h0,h1,h2,h3⟩
theorem i1n6{A:Sort u}{P Q R S T:A->Prop}(a:A)(h0:P a)(h1:Q a)(h2:R a)(h3:S a)(h4:T a):∃a,P a/\Q a/\R a/\S a/\T a:=⟨a,h0,h1,h2,h3,h4⟩
theorem i2n3{A:Sort u}{B:Sort u}{P:A->B->Prop}(a:A)(b:B)(h0:P a b):∃a b,P a b:=⟨a,b,h0⟩
theorem i2n4{A:Sort u}{B:Sort u}{P Q:A->B->Prop}(a:A)(b:B)(h0:P a b)(h1:Q a b):∃a b,P a b/\Q a b:=⟨a,b,h0,h1⟩
theorem i2n5{A:Sort u}{B:Sort u}{P Q R:A->B->Prop}(a:A)(b:B)(h0:P a b)(h1:Q a b)(h2:R a b):∃a b,P a b/\Q a b/\R a b:=⟨a,b,h0,h1,h2⟩
theorem i2n6{A:Sort u}{B:Sort u}{P Q R S:A->B->Prop}(a:A)(b:B)(h0:P a b)(h1:Q a b)(h2:R a b)(h3:S a b):∃a b,P a b/\Q a b/\R a b/\S a b:=⟨a,b,h0,h1,h2,h3⟩
theorem i2n7{A:Sort u}{B:Sort u}{P Q R S T:A->B->Prop}(a:A)(b:B)(h0:P a b)(h1:Q a b)(h2:R a b)(h3:S a b)(h4:T a b):∃a b,P a b/\Q a b/\R a b/\S a b/\T a b:=⟨a,b,h0,h1,h2,h3,h4⟩
theorem i3n4{A:Sort u}{B:Sort u}{C:Sort u}{P:A->B->C->Prop}(a:A)(b:B)(c:C)(h0:P a b c):∃a b c,P a b c:=⟨a,b,c,h0⟩
theorem i3n5{A:Sort u}{B:Sort u}{C:Sort u}{P Q:A->B->C->Prop}(a:A)(b:B)(c:C)(h0:P a b c)(h1:Q a b c):∃a b c,P a b c/\Q a b c:=⟨a,b,c,h0,h1⟩
theorem i3n6{A:Sort u}{B:Sort u}{C:Sort u}{P Q R:A->B->C->Prop}(a:A)(b:B)(c:C)(h0:P a b c)(h1:Q a b c)(h2:R a b c):∃a b c,P a b c/\Q a b c/\R a b c:=⟨a,b,c,h0,h1,h2⟩
theorem i3n7{A:Sort u}{B:Sort u}{C:Sort u}{P Q R S:A->B->C->Prop}(a:A)(b:B)(c:C)(h0:P a b c)(h1:Q a b c)(h2:R a b c)(h3:S a b c):∃a b c,P a b c/\Q a b c/\R a b c/\S a b c:=⟨a,b,c,h0,h1,h2,h3⟩
theorem i3n8{A:Sort u}{B:Sort u}{C:Sort u}{P Q R S T:A->B->C->Prop}(a:A)(b:B)(c:C)(h0:P a b c)(h1:Q a b c)(h2:R a b c)(h3:S a b c)(h4:T a b c):∃a b c,P a b c/\Q a b c/\R a b c/\S a b c/\T a b c:=⟨a,b,c,h0,h1,h2,h3,h4⟩
theorem i4n5{A:Sort u}{B:Sort u}{C:Sort u}{D:Sort u}{P:A->B->C->D->Prop}(a:A)(b:B)(c:C)(d:D)(h0:P a b c d):∃a b c d,P a b c d:=⟨a,b,c,d,h0⟩
theorem i4n6{A:Sort u}{B:Sort u}{C:Sort u}{D:Sort u}{P Q:A->B->C->D->Prop}(a:A)(b:B)(c:C)(d:D)(h0:P a b c d)(h1:Q a b c d):∃a b c d,P a b c d/\Q a b c d:=⟨a,b,c,d,h0,h1⟩
theorem i4n8{A:Sort u}{B:Sort u}{C:Sort u}{D:Sort u}{P Q R S:A->B->C->D->Prop}(a:A)(b:B)(c:C)(d:D)(h0:P a b c d)(h1:Q a b c d)(h2:R a b c d)(h3:S a b c d):∃a b c d,P a b c d/\Q a b c d/\R a b c d/\S a b c d:=⟨a,b,c,d,h0,h1,h2,h3⟩
theorem i4n9{A:Sort u}{B:Sort u}{C:Sort u}{D:Sort u}{P Q R S T:A->B->C->D->Prop}(a:A)(b:B)(c:C)(d:D)(h0:P a b c d)(h1:Q a b c d)(h2:R a b c d)(h3:S a b c d)(h4:T a b c d):∃a b c d,P a b c d/\Q a b c d/\R a b c d/\S a b c d/\T a b c d:=⟨a,b,c,d,h0,h1,h2,h3,h4⟩
theorem i5n9{A:Sort u}{B:Sort u}{C:Sort u}{D:Sort u}{E:Sort u}{P Q R S:A->B->C->D->E->Prop}(a:A)(b:B)(c:C)(d:D)(e:E)(h0:P a b c d e)(h1:Q a b c d e)(h2:R a b c d e)(h3:S a b c d e):∃a b c d e,P a b c d e/\Q a b c d e/\R a b c d e/\S a b c d e:=⟨a,b,c,d,e,h0,h1,h2,h3⟩
@[elab_as_elim] theorem rw0{α:Sort u}{a b:α}{qe:α->Prop}(h:a=b)(x:qe b):qe a:=h▸x
@[elab_as_elim] theorem rw1{α:Sort u}{a b:α}{qe:α->Prop}(h:b=a)(x:qe b):qe a:=h▸x
theorem KM{x c C:C0}(h:x<=c)(q:T9 c C=I0):x<=C:=X6 h (u6 q)
theorem Ka{x c C:C0}(h:x=c)(q:T9 (c+1) C=I0):x<C:=h▸u6 q
theorem vU{x y c d C:C0}(h:x<=c)(k:y<=d)(q:T9 (c+d) C=I0):x+y<=C:=X6 (EU h k) (u6 q)
theorem ω8{x0 x1 x2:C0}(h0:x0<=x1)(h2:x2<=x1):x0-(x1-x2)=x2-(x1-x0):=by
 have t:=C0.sub_right_comm x1 (x1-x0) (x1-x2);rwa [mt h0,mt h2]at t
theorem ω9:∀x<3,x=0\/x=1\/x=2:=by decide
theorem ω10{x0 x1 x2:C0}(h1:x1<=x0+x2):(x2+1)-(x1-x0)=(x2-(x1-x0))+1:=C0.succ_sub (oS0 h1)
theorem ω11{x0:B2}{x1:C0}(h0:x0<0):Zo (x0+(x1:B2)) 0=Zo 0 (xB (x0+(x1:B2)) (x1:B2)):=by
 have t:x0+(x1:B2)<=x1:=B2.le_trans (B2.add_le_add_right (B2.le_of_lt h0) x1) (B2.le_of_eq (B2.zero_add _));rw[B2.min_eq_left t,B2.max_comm]
theorem ω12{x0 x1 x2:C0}(h0:x0-x1=x2+1):x0-(x1+1)=x2:=H6 H_ h0
theorem ω13{x0 x1 x2:C0}(h0:x0<=x1)(h1:x1<=x0+x2):x0+(x2-(x2-(x1-x0)))=x1:=by rw[mt (oS0 h1),C0.add_sub_of_le h0]
theorem ω15{x0 x1:C0}(h0:x0<x1):x1-x0=(x1-(x0+1))+1:=(C0.succ_pred (C0.sub_ne_zero_of_lt h0)).Z3
theorem ω16{x4 x2 x0 x5:C0}(h0:x0<=60)(h4:x5=16777216):xB (x4-x2) (x0-x2)<=x5:=h4▸X6 (C0.jU0 _ _) (X6 (C0.sub_le _ _) (KM h0 O))
theorem ω17{x0 x1:C0}:x1-(x0+1)=(x1-1)-x0:=WV0 1 x0▸(C0.sub_sub x1 1 x0).Z3
theorem ω18:∀x<4,x=0\/x=1\/x=2\/x=3:=by decide
theorem ω19{x z:C0}(h:x<1114112):((x+1)+1114113*z)%1114113=x+1:=(C0.add_mul_mod_self_left ..).U2 (C0.mod_eq_of_lt (pt h))
theorem ω20{x z:C0}(h:x<1114112):((x+1)+1114113*z)/1114113=z:=(C0.add_mul_div_left _ _ (u6 O)).U2 ((H6 (· +z) (C0.div_eq_of_lt (pt h))).U2 (ZW z))
theorem ω21{x0 x1 x2 x3:C0}(h0:x0<1114112)(h1:x1<1114112)(h2:(x0+1)+1114113*x2=(x1+1)+1114113*x3):x0=x1/\x2=x3:=
 ⟨mZ ((ω19 h0).Z3.U2 ((H6 (· %1114113) h2).U2 (ω19 h1))),(ω20 h0).Z3.U2 ((H6 (· /1114113) h2).U2 (ω20 h1))⟩
theorem ω22{x0 x2:C0}(h0:x0<1114112):(((x0+1)+1114113*x2)%1114113)-1=x0:=H6 H_ (ω19 h0)
theorem ω25{x0 x1 x2:C0}(h0:(x0+(x1+1))+50<=x2):x0<x2:=W8 (iq (ec x1)) (X6 (QG _ 50) h0)
theorem ω26{x0 x2:C0}{x1:B2}(h0:(x0:B2)=Zo 0 (xB x1 (x2:B2))):x0<=x2:=dS0.mp (h0▸B2.NW0 ⟨PL _,B2.jU0 _ _⟩)
theorem ω27{x0 x1:C0}(h:x0<=x1):x0-x1=0:=C0.sub_eq_zero_of_le h
theorem ω28{x0 x1:C0}(h0:x0=x1+4\/x0=x1+3\/x0=x1\/x0=x1+1):x1<=x0:=by rcases h0 with h|h|h|h<;>rw[h]<;>first|exact QG x1 _|exact B8 _
theorem ω30{x0:C0}(h1:¬(0:B2)<GA x0):(0:B2)=(x0:B2):=B2.T90 (PL _) (uk h1)
theorem ω31{x0 x1 x2 k:C0}(h0:(x0+8*(x1+1))+500<=x2)(q:T9 k 8=I0):((x0+k)+8*x1)+500<=x2:=
 X6 (lr (X6 (MP (C0.add_right_comm x0 k (8*x1))) (YZ (u6 q) (x0+8*x1))) 500) h0
theorem ω32{x1 x2:C0}(h2:x2<=x1):x2=x1-(x1-x2):=(mt h2).Z3
theorem ω33{x0 x1 x2:C0}(h0:x0-x1=x2+1):x1<x0:=C0.lt_of_sub_eq_succ h0
theorem ω34{x0 x1:C0}(h0:x0=x1)(h1:¬x1<3)(h2:x0<5)(h3:x1≠3):x1=4:=(by decide:∀x<5,¬x<3->x≠3->x=4) x1 (h0▸h2) h1 h3
theorem ω36{x0:B2}{x1:C0}(h0:¬x0<0):xB x0 (x1:B2)=Zo 0 (xB x0 (x1:B2)):=(B2.max_eq_right (B2.le_min.C8 ⟨uk h0,PL _⟩)).Z3
theorem ω37{x0 x1 x2 x3:C0}(h0:x0<=x1)(h1:(x2+8*x1)+500<=x3):(x2+8*x0)+500<=x3:=X6 (lr (YZ (C0.mul_le_mul_left 8 h0) x2) 500) h1
theorem ω40{x0 x1 x2:C0}(h0:(x0+(x1+1))+50<=x2):((x0+1)+x1)+50<=x2:=X6 (MP (H6 (· +50) (SZ x0 x1))) h0
theorem ω42{x0 x2 p a:C0}(h1:p<=x2)(q:T9 a 1114113=I0):p*a<=(x0+1)+1114113*x2:=X6 (C0.mul_le_mul h1 (u6 q)) (C0.mul_comm 1114113 x2▸LU0 _ _)
theorem ω43{x0 x1 x2 x3 x4:C0}(h0:x0<=60)(h1:xB x1 x2<=x1)(h2:x1<=x0)(h3:x3+100<x4):x3+xB x1 x2<x4:=vi (YZ (X6 h1 (X6 h2 (KM h0 O))) x3) h3
theorem ω44{x0 x1 x2:C0}(h0:x0<=x1)(h1:x2+1=x0):x2<=x1-1:=C0.le_sub_of_add_le (h1▸h0)
theorem ω45{x0 x1 x2:C0}(h0:(x0+x1)+50<=x2):x0+20<=x2:=X6 (EU (QG x0 x1) (u6 O)) h0
theorem ω46{x0 x1:C0}(h0:x0<1)(h1:x1<1):x0=x1:=(js h0).U2 (js h1).Z3
theorem ω47{x0 x1 x2:C0}(h0:x0+(x1+1)<=x2):(x0+1)+x1<=x2:=X6 (MP (SZ x0 x1)) h0
theorem ω48{x0 x1 c:C0}(h0:x0+1=x1)(h1:x1<=c):x0<=c:=by rw[<-h0]at h1;exact u80 h1
theorem ω49{x0 x1 x2 x3 x4:C0}(h0:x0+x1<=100000)(h1:x2<=x0)(h2:x3<=x1)(h3:x4=16777216):x2+x3<=x4:=h3▸X6 (EU h1 h2) (KM h0 O)
theorem ω50{x0 x1 x2 x3 x4 x5:C0}(h0:x0<=x1)(h1:x2<=x3)(h2:x4<=x5):(x0+x2)+x4<=(x1+x3)+x5:=EU (EU h0 h1) h2
theorem ω52{x0 x1 x2:C0}(h0:x0<=x1):x0<xB x0 x1+(x2+1):=(uj h0).Z3▸iq (ec _)
theorem ω54{x0 x1 x2:C0}(h0:20*x0<=x1)(h1:x2=x0):x2<=x1:=h1▸X6 (X80 x0 (ec 19)) h0
theorem ω55{x0 x1 x2:C0}(h0:x0+(x1+1)=x2):(x0+1)+x1=x2:=(SZ x0 x1).U2 h0
theorem ω57{x0 x1 x2 x3 x4:C0}(h0:x0<=x1)(h1:x1<=60)(h2:xB x0 x2<=x0)(h3:x3+100<x4):(x3+1)+xB x0 x2<x4:=
 vi (xb x3 1 _▸YZ (X6 (YZ (X6 h2 (X6 h0 h1)) 1) (u6 O)) x3) h3
theorem ω58{x0 x1 x2:C0}(h0:x0<=195)(h1:x1<=195)(h2:x2<=195):(x0+x1)+(x2+x1)<=100000:=vU (EU h0 h1) (EU h2 h1) O
theorem ω59{x0 x1 x2 x3:C0}(h0:x0<=x1)(h1:(x2+x1)+50<=x3):(x2+x0)+50<=x3:=X6 (lr (YZ h0 x2) 50) h1
theorem ω60{x0 x1:C0}(h0:¬x0<=x1):x0<=x0/\x1<=x0:=⟨B8 _,C90 h0⟩
theorem ω62{x0 c:C0}(h1:¬(c:B2)<(x0:B2)):x0<=c:=dS0.mp (uk h1)
theorem ω63{x0 x1:C0}(h0:¬x0=x1)(h1:x0<x1+1):x0<x1:=WT0 (ls h1) h0
theorem ω65{x0 x1:C0}(h0:x0<=x1):x0=xB x0 x1:=(uj h0).Z3
theorem ω67{x0 x1 x2 x3:C0}(h0:x0<=x1)(h1:x2<x0)(h2:x3<=0+x2):x3<=x1:=X6 (ZW x2▸h2) (NP (W8 h1 h0))
theorem ω68{x0 x1 x2:C0}(h0:x0<=x1)(h1:x2<x0):x2<xB x0 x1:=(uj h0).Z3▸h1
theorem ω69{x0 x1 x2:C0}(h0:x0<=x1)(h1:x0<x2)(h2:¬x0<x1):x1+1<=x2:=C0.T90 h0 (C0.N80 h2)▸h1
theorem ω70{x0 x1:C0}(h0:¬x0<=x1):x1=xB x0 x1:=(wT0 (C90 h0)).Z3
theorem ω71{x0 x1 c:C0}{C:C0}(h0:x0<=c)(h1:x0=x1)(q:T9 (c+1) C=I0):x1<C:=h1▸X6 (CK h0) (u6 q)
theorem ω73{x0 x1:C0}(h0:20*x0<=x1)(h1:x1<=3900):x0<=195:=C0.le_of_mul_le_mul_left (a:=x0) (b:=195) (c:=20) (X6 h0 h1) (ec 19)
theorem ω74{x0 x1 x2:C0}(h0:x0<=x1+x2):x0+1<=(x1+1)+(x2+1):=CK (X6 h0 (lr (UN x1) x2))
theorem ω75{x0 x1:C0}(h0:¬x0<x1):(x1:B2)-(x0:B2)<=0:=B2.sub_nonpos_of_le (I90 (C0.N80 h0))
theorem ω77{x0 x1:C0}(h0:eW x0<eW x1):x1<x0:=uS0 (pc.mp (XT0.mp h0))
theorem ω79{x0 x1:C0}(h:x0+20<=x1):x0+1<x1:=X6 (show x0+2<=x0+20 from YZ (u6 O) x0) h
theorem ω82{x0 x1 x2:C0}(h:x0<=x1+x2):x0+1<=(x1+1)+x2:=X6 (CK h) (MP (C0.succ_add x1 x2).Z3)
theorem ω83{x0 x1 x2:C0}(h:x0+(x1+1)=x2):x0<x2:=h▸iq (ec x1)
theorem ω84{x0 x1:C0}(h:x0<x1):(0:B2)<(x1:B2)-(x0:B2):=B2.sub_pos_of_lt (pc.C8 h)
theorem ω85{x0 x1:C0}(h:x0<x1):eW x1<eW x0:=XT0.C8 (pc.C8 (pt h))
theorem ω87{x0 x1 x2:C0}(h:(x0+8*x1)+500<=x2):x0+100<x2:=X6 (EU (QG x0 (8*x1)) (u6 O:101<=500)) h
theorem ω100{x:C0}(h:x<=2):x=0\/x=1\/x=2:=ω9 x (v80 h)
theorem ω101{x y z:C0}(h:x<3)(e:y=x)(k:z=x):z<3:=k▸h
theorem ω104{x y z:C0}(h:x+y<=z):x<=z:=X6 (QG x y) h
theorem ω105{x y z:C0}(h:x+(y+1)<=z):x<z:=W8 (iq (ec y)) h
theorem ω112{x y z:C0}(h:x<=y)(k:z<x):z+1<=y+1:=CK (NP (W8 k h))
theorem ω113{x:C0}:3<(0+1+1+1+1+1)+x:=W8 (u6 O:3<5) (QG 5 x)
theorem WM{P:C0->Prop}(h0:P 0)(hs:∀k,P (k+1))(k:C0):P k:=@bR (λ k=>P k) h0 (λ k _=>hs k) k
theorem kk9{P:C0->Prop}(h0:P 0)(h1:P 1)(h2:P 2)(h3:P 3)(h4:P 4)(h5:P 5)(h6:P 6)(h7:P 7)(h8:P 8)(hr:∀k,P (k+9))(k:C0):P k:=(WM (P:=P) h0 (WM (P:=λ k=>P (k+1)) h1 (WM (P:=λ k=>P (k+2)) h2 (WM (P:=λ k=>P (k+3)) h3 (WM (P:=λ k=>P (k+4)) h4 (WM (P:=λ k=>P (k+5)) h5 (WM (P:=λ k=>P (k+6)) h6 (WM (P:=λ k=>P (k+7)) h7 (WM (P:=λ k=>P (k+8)) h8 hr))))))))) k
end Mine.Internal
end
set_option tactic.hygienic false
set_option backward.match.sparseCases false
set_option bootstrap.genMatcherCode false
set_option genCtorIdx false
set_option maxRecDepth 100000
namespace Mine.Internal
open PySem PySem.W PySem.Calls PySem.SeqAt
open Sem (wp)
section
section
def sC(c n:C0):C0:=bif Y1 n 0 then 0 else bif Y6 c 1114112 then NF (LH c) (C0.La 1114113 n)else 0
def c7:P0 C0->C0
 |[]=>1
 |c::l=>sC c (c7 l)
def vc(s:u0):C0:=c7 s.aS0
inductive PV where
 |H0
 |O3(b:I1)
 |j0(i:B2)
 |Z0(s:C0)
 |EG(n:C0)
 |B0
 |A0(a r:PV)
 |kv(k:C0)(v r:PV)
 |Q0(l:PV)
 |J0(i:C0)
 |Y0(a:C0)
 |ty(i:C0)
 |wr(i:C0)
 |pC(i:C0)
@[reducible] def PV.MJ(x:PV):C0:=@Q3 (λ _=>C0) x 0 (λ _=>1) (λ _=>2) (λ _=>3) (λ _=>4) 5 (λ _ _=>6) (λ _ _ _=>7) (λ _=>8) (λ _=>9) (λ _=>10) (λ _=>11) (λ _=>12) (λ _=>13)
mutual
inductive nK where|add|sub|mul
inductive gG where|eq|ne|isin|rI|iG|rE|gt|lt|ge
inductive B1 where|len|vg|sorted|str
inductive Mt where|append|pop|extend|get|setdefault|update|join|split|other
inductive Mk where|tup|list|dict
end
@[reducible] def nK.MJ(x:nK):C0:=@nK.n8 (λ _=>C0) x 0 1 2
@[reducible] def gG.MJ(x:gG):C0:=@gG.n8 (λ _=>C0) x 0 1 2 3 4 5 6 7 8
@[reducible] def B1.MJ(x:B1):C0:=@B1.n8 (λ _=>C0) x 0 1 2 3
@[reducible] def Mt.MJ(x:Mt):C0:=@u00 (λ _=>C0) x 0 1 2 3 4 5 6 7 8
@[reducible] def Mk.MJ(x:Mk):C0:=@yf (λ _=>C0) x 0 1 2
inductive C where
 |M2
 |v0(v:PV)
 |F0(x:C0)
 |B0
 |A0(a r:C)
 |K2(f l:C)
 |F4(m:Mt)(x:C0)(o l:C)
 |Z1(x:C0)(o:C)
 |w0(o i:C)
 |S1(op:gG)(a b:C)
 |Q0(l:C)
 |M1(l:C)
 |H2(l:C)
 |K7(c a b:C)
 |D8(a b:C)
 |or(a b:C)
 |hH(a:C)
 |L6(op:nK)(a b:C)
 |iE(o lo hi:C)
 |BQ(o:C)
 |b1(op:B1)(e:C)
 |mk(k:Mk)(it:C)
 |J7(Y5 Q4 A7 it:C)
 |qA(k:C0)
 |T4(e:C)
 |pK(a b:C)
 |wX(a:C)
 |aa(e:C)
@[reducible] def C.MJ(x:C):C0:=@C.n8 (λ _=>C0) x 0 (λ _=>1) (λ _=>2) 3 (λ _ _=>4) (λ _ _=>5) (λ _ _ _ _=>6) (λ _ _=>7) (λ _ _=>8) (λ _ _ _=>9) (λ _=>10) (λ _=>11) (λ _=>12) (λ _ _ _=>13) (λ _ _=>14) (λ _ _=>15) (λ _=>16) (λ _ _ _=>17) (λ _ _ _=>18) (λ _=>19) (λ _ _=>20) (λ _ _=>21) (λ _ _ _ _=>22) (λ _=>23) (λ _=>24) (λ _ _=>25) (λ _=>26) (λ _=>27)
inductive S where
 |B0
 |M2
 |V1(t e:C)(r:S)
 |U1(e:C)
 |K3(c:C)(a b:S)(r:S)
 |B6(e:C)(r:S)
 |RE(t it:C)(b:S)(r:S)
 |LM(c:C)(b:S)(r:S)
 |cB
 |bB
 |kC(e:C)
 |XO(b:S)(h:S)(r:S)
 |oU(c:C0)(v:PV)(r:S)
 |wg(c:C0)(l:C)(r:S)
 |xg(c:C0)(x:C0)(d a y:C0)(r:S)
 |p_(x:C0)(r:S)
@[reducible] def S.MJ(x:S):C0:=@S.n8 (λ _=>C0) x 0 1 (λ _ _ _=>2) (λ _=>3) (λ _ _ _ _=>4) (λ _ _=>5) (λ _ _ _ _=>6) (λ _ _ _=>7) 8 9 (λ _=>10) (λ _ _ _=>11) (λ _ _ _=>12) (λ _ _ _=>13) (λ _ _ _ _ _ _=>14) (λ _ _=>15)
inductive TI where
 |RC(m d:C0)
 |al(j:C0)
 |mA(k:C0)
 |Y8(j:C0)
 |Z8(j:C0)
@[reducible] def TI.MJ(x:TI):C0:=@zf (λ _=>C0) x (λ _ _=>0) (λ _=>1) (λ _=>2) (λ _=>3) (λ _=>4)
inductive AO where
 |K4
 |M1(l:PV)
 |H2(l:PV)
 |W6(l:PV)
 |w7(c d:C0)
 |K8(cx:I1)(c d:C0)
 |qA(k:C0)
 |bm(f:C0)(q_:PV)
 |S4
 |ti(x:TI)
@[reducible] def AO.MJ(x:AO):C0:=@FA (λ _=>C0) x 0 (λ _=>1) (λ _=>2) (λ _=>3) (λ _ _=>4) (λ _ _ _=>5) (λ _=>6) (λ _ _=>7) 8 (λ _=>9)
inductive TT where
 |B0
 |S3(v:AO)(l r:TT)
namespace TT
def o9(t:TT):C0->AO:=@TT.NR (λ _=>C0->AO) (λ _=> .K4) (λ v _ _ a b i=>@L8 (λ _=>AO) (@L8 (λ _=>AO) (b (QH (RH i 2) 1)) (a (RH i 2)) (Y1 (uL i 2) 1)) v (Y1 i 0)) t
def oB0(o:AO)(k:C0):C0->TT:=@bR (λ _=>C0->TT) (λ _=> .B0) (λ _ ih i=>@L8 (λ _=>TT) (@L8 (λ _=>TT) (.S3 .K4 .B0 (ih (QH (RH i 2) 1))) (.S3 .K4 (ih (RH i 2)) .B0) (Y1 (uL i 2) 1)) (.S3 o .B0 .B0) (Y1 i 0)) k
def A9(o:AO)(t:TT):C0->TT:=@TT.NR (λ _=>C0->TT) (λ i=>oB0 o (LH i) i) (λ v l r a b i=>@L8 (λ _=>TT) (@L8 (λ _=>TT) (.S3 v l (b (QH (RH i 2) 1))) (.S3 v (a (RH i 2)) r) (Y1 (uL i 2) 1)) (.S3 o l r) (Y1 i 0)) t
end TT
structure K1 where
 t:TT
 n:C0
 u:TT:=.B0
 m:C0:=0
 ne:P0 (C0×C0):=[]
namespace K1
def q8(σ:K1)(i:C0):AO:=σ.cX i
def Km(σ:K1)(i:C0)(o:AO):K1:=⟨QX.A9 o i,tJ,Zy,E6,pP⟩
def SB(σ:K1)(o:AO):K1:=⟨QX.A9 o tJ,LH tJ,Zy,E6,pP⟩
def Lp:AO->TI
 |.ti x=>x
 |_=> .RC 31 9
def ti(σ:K1)(i:C0):TI:=Lp (Zy.o9 i)
def bJ(σ:K1)(i:C0)(x:TI):K1:=⟨QX,tJ,ay (.ti x) i,E6,pP⟩
def Mp(σ:K1)(x:TI):K1:=⟨QX,tJ,ay (.ti x) E6,LH E6,pP⟩
def xX(σ:K1)(i j:C0):K1:=⟨QX,tJ,Zy,E6,(i,j)::pP⟩
def der(σ:K1)(i:C0):C0:=@bR (λ _=>C0->C0) (λ i=>i) (λ _ ih i=>match X8 i with|.al j=>ih j|_=>i) 6 i
def uy:TI->TI->Q1 (C0×C0)
 |.Y8 a,.Y8 b=>E0 (a,b)
 |.Z8 a,.Z8 b=>E0 (a,b)
 |_,_=>A2
def H10(k:C0):TI->I1
 |.mA j=>Y1 j k
 |_=>R0
def I10(i j a b:C0):I1:=bif Y1 a i then Y1 b j else bif Y1 a j then Y1 b i else R0
def pB0(σ:K1)(i j:C0)(p:C0×C0):I1:=bif I10 i j p.1 p.2 then I0 else
 @jW (C0×C0) (λ _=>I1) R0 (λ q=>I10 i j (I7 q.1) (I7 q.2)) (uy (X8 (I7 p.1)) (X8 (I7 p.2)))
def qB0(σ:K1)(i k:C0):I1:=@pL (C0×C0) (λ _=>I1) R0 (λ p _ ih=>bif Y1 (I7 p.1) i then(bif H10 k (X8 (I7 p.2))then I0 else ih)else bif Y1 (I7 p.2) i then(bif H10 k (X8 (I7 p.1))then I0 else ih)else ih) pP
def isNe(σ:K1)(i j:C0):I1:=@pL (C0×C0) (λ _=>I1) R0 (λ p _ ih=>bif σ.pB0 i j p then I0 else ih) pP
end K1
inductive H7(α:Type)where
 |B9(a:α)(s:K1)
 |K8(i:C0)(s:K1)
 |YG(n:C0)(k:C0->H7 α)
 |eJ(w:C0)
def H7.P1{α:Type}(P:α->K1->Prop)(X:C0->K1->Prop):H7 α->Prop
 |.B9 a s=>P a s
 |.K8 i s=>X i s
 |.YG n k=>∀d,d<n->(k d).P1 P X
 |.eJ _=>J6
def H7.S6{α β:Type}(f:α->K1->H7 β)(o:H7 α):H7 β:=
 @K00 α (λ _=>H7 β) (λ a s=>f a s) (λ i s=> .K8 i s) (λ n _ ih=> .YG n ih) (λ w=> .eJ w) o
def sx{α:Type}(h:C0->K1->H7 α)(o:H7 α):H7 α:=
 @K00 α (λ _=>H7 α) (λ a s=> .B9 a s) (λ i s=>h i s) (λ n _ ih=> .YG n ih) (λ w=> .eJ w) o
def M(α:Type):=K1->H7 α
def F1{α β:Type}(m:M α)(f:α->M β):M β:=λ s=>H7.S6 f (m s)
def W1{α:Type}(a:α):M α:=λ s=> .B9 a s
def F2{α:Type}(w:C0):M α:=λ _=> .eJ w
def Fo{α:Type}(i:C0):M α:=λ s=> .K8 i s
def wW(i:C0)(o:AO):M T7:=λ s=> .B9 () (s.Km i o)
def V9(o:AO):M PV:=λ s=> .B9 (.J0 s.n) (s.SB o)
def y5{α:Type}(w:C0)(o:Q1 α):M α:=@jW α (λ _=>M α) (F2 w) (λ a=>W1 a) o
def UI{α:Type}(b:I1)(x y:M α):M α:=@L8 (λ _=>M α) y x b
def OI{α:Type}(z:α)(f:PV->α->α)(g:C0->PV->α->α)(l:PV):α:=
 @X_ (λ _=>α) z (λ _=>z) (λ _=>z) (λ _=>z) (λ _=>z) z (λ a _ _ ih=>f a ih) (λ k v _ _ ih=>g k v ih) (λ _ _=>z) (λ _=>z) (λ _=>z) (λ _=>z) (λ _=>z) (λ _=>z) l
def I4(x:C0)(l:PV):Q1 PV:=OI A2 (λ _ _=>A2) (λ k v ih=>@L8 (λ _=>Q1 PV) ih (E0 v) (Y1 k x)) l
def A6(x:C0)(w:PV):PV->PV
 |.kv k v r=>bif Y1 k x then .kv k w r else .kv k v (A6 x w r)
 |_=> .kv x w .B0
def nE(m:PV)(l:PV):PV:=OI m (λ a ih=> .A0 a ih) (λ _ _ ih=>ih) l
def wR(a:PV)(l:PV):PV:=nE (.A0 a .B0) l
def Z5(l:PV):C0:=OI 0 (λ _ ih=>LH ih) (λ _ _ ih=>LH ih) l
def cJ(l:PV):C0->Q1 PV:=OI (λ _=>A2) (λ a ih i=>@bR (λ _=>Q1 PV) (E0 a) (λ j _=>ih j) i) (λ _ _ _ _=>A2) l
def zU:PV->C0->PV->Q1 PV
 |.A0 _ r,0,w=>E0 (.A0 w r)
 |.A0 a r,n+1,w=>(zU r n w).Y4 (.A0 a)
 |_,_,_=>A2
def Np(l:PV):C0->PV
 |0=>l
 |n+1=>match l with|.A0 _ r=>Np r n|l=>l
def Pp(l:PV):C0->PV:=OI (λ _=> .B0) (λ a ih i=>@bR (λ _=>PV) .B0 (λ j _=> .A0 a (ih j)) i) (λ _ _ _ _=> .B0) l
def YO(l:PV):PV->PV:=OI (λ N3=>N3) (λ a ih N3=>ih (.A0 a N3)) (λ _ _ _ N3=>N3) l
def JA(l:PV):I1:=OI I0 (λ _ _=>R0) (λ _ _ _=>R0) l
def I5(l:PV):I1:=T9 (Z5 l) 60
def Ve(l:PV):Q1 (PV×PV):=match YO l .B0 with|.A0 a r=>E0 (YO r .B0,a)|_=>A2
def zX:C0:=1383035510432989519
def AV:C0:=1540846778513995950916017
def AY:C0:=1716678967627246444591422571031
def BV:C0:=1383040475425210701
def CV:C0:=1383035510421848381
def yg:C0:=1241311281328
def nX:C0:=1114202
def nS:C0:=1114197
def Xn(h:C0):Q1 C0:=bif Y1 h BV then E0 3 else bif Y1 h CV then E0 4 else bif Y1 h zX then E0 0 else bif Y1 h AY then E0 2 else bif Y1 h AV then E0 1 else A2
def zL(d:C0):C0:=bif Y1 d 0 then 7 else 31
def qC(m k:C0):I1:=Y1 (uL (RH m (RK 2 k)) 2) 1
def mkT(k j:C0):TI:=bif Y1 k 3 then .Y8 j else .Z8 j
def I_(i k d:C0):M T7:=bif Y6 k 3 then(λ σ=> .B9 () (uN i (.mA k)))
 else λ σ=> .B9 () ((mU (.RC (zL (H_ d)) (H_ d))).bJ i (mkT k E6))
def BY(i k m d:C0):M I1:=
 bif qC m k then λ σ=>(bif vy i k then λ σ=> .B9 R0 (uN i (.RC (QH m (RK 2 k)) d))else bif Y1 m (RK 2 k)then F1 (I_ i k d) (λ _=>W1 I0)
  else λ σ=> .YG 2 (λ x=>bif Y1 x 0 then F1 (I_ i k d) (λ _=>W1 I0) σ else .B9 R0 (uN i (.RC (QH m (RK 2 k)) d)))) σ
 else W1 R0
def ja(i k:C0):TI->M I1
 |.mA j=>W1 (Y1 j k)
 |.Y8 _=>W1 (Y1 3 k)
 |.Z8 _=>W1 (Y1 4 k)
 |.al _=>F2 200
 |.RC m d=>bif Y1 d 0 then(bif Y6 k 3 then BY i k m d else W1 R0)else BY i k m d
def qa(i h:C0):M I1:=@jW C0 (λ _=>M I1) (W1 R0) (λ k σ=>ja (I7 i) k (X8 (I7 i)) σ) (Xn h)
def QS(k:C0):PV:=bif Y1 k 0 then .A0 (.Z0 zX) (.A0 (.Z0 yg) .B0)else bif Y1 k 1 then .A0 (.Z0 AV) .B0 else .A0 (.Z0 AY) (.A0 (.Z0 nX) .B0)
def J10(q:PV):PV:=.A0 (.Z0 BV) (.A0 q .B0)
def Qp(q:PV):PV:=.A0 (.Z0 CV) (.A0 (.Z0 nS) (.A0 (.Q0 .B0) (.A0 (.Q0 (.A0 q .B0)) .B0)))
def vN:TI->Q1 PV
 |.mA k=>E0 (QS k)
 |.Y8 j=>E0 (J10 (.ty j))
 |.Z8 j=>E0 (Qp (.ty j))
 |_=>A2
def ua(a b:B2):I1:=match a,b with
 |.O4 m,.O4 n=>Y1 m n
 |.PB m,.PB n=>Y1 m n
 |_,_=>R0
def Xg(a b:B2):I1:=match a,b with
 |.O4 m,.O4 n=>Y6 m n
 |.O4 _,.PB _=>R0
 |.PB _,.O4 _=>I0
 |.PB m,.PB n=>Y6 n m
def rB0:PV->M I1
 |.H0=>W1 I0|.O3 _=>W1 R0|.j0 _=>W1 R0|.Z0 _=>W1 R0|.Q0 _=>W1 R0|.ty _=>W1 R0|_=>F2 201
def eqBool(b:I1):PV->M I1
 |.H0=>W1 R0|.O3 c=>W1 (@L8 (λ _=>I1) (@L8 (λ _=>I1) I0 R0 c) c b)|.Z0 _=>W1 R0|.Q0 _=>W1 R0|.ty _=>W1 R0|_=>F2 202
def sB0(i:B2):PV->M I1
 |.H0=>W1 R0|.j0 j=>W1 (ua i j)|.Z0 _=>W1 R0|.Q0 _=>W1 R0|.ty _=>W1 R0|_=>F2 203
def eqStr(n:C0):PV->M I1
 |.H0=>W1 R0|.O3 _=>W1 R0|.j0 _=>W1 R0|.Z0 m=>W1 (Y1 n m)|.Q0 _=>W1 R0|.ty _=>W1 R0
 |.pC i=>qa i n
 |_=>F2 204
def hK(i k:C0):M I1:=λ σ=>ja i k (X8 i) σ
def K10(i j:C0)(l:P0 C0):M I1:=@pL C0 (λ _=>M I1) (F2 220) (λ k _ ih=>F1 (hK i k) (λ t=>@L8 (λ _=>M I1) ih (hK j k) t)) l
def Rp(i j:C0):M I1:=λ σ=>bif Y1 (I7 i) (I7 j)then W1 I0 σ else K10 (I7 i) (I7 j) [3,4,0,2,1] σ
def tB0(i:C0):PV->M I1
 |.Z0 m=>qa i m|.pC j=>Rp i j|_=>F2 205
section
variable(ih:PV->PV->M Bool)
def uB0:PV->M I1
 |.B0=>W1 I0|.A0 _ _=>W1 R0|_=>F2 206
def vB0(a:PV)(RA:PV->M I1):PV->M I1
 |.B0=>W1 R0|.A0 b r=>F1 (ih a b) (λ t=>@L8 (λ _=>M I1) (W1 R0) (RA r) t)|_=>F2 207
def Ah(l:PV):PV->M I1:=OI (λ m=>uB0 m) (λ a RA=>vB0 ih a RA) (λ _ _ _ _=>F2 208) l
def Sp(i:C0)(l:PV):M I1:=λ σ=>@jW PV (λ _=>M I1) (F2 209) (λ c=>Ah ih c l) (vN (X8 (I7 i))) σ
def DV(i:C0)(l:PV):M I1:=match l with
 |.A0 (.Z0 h) _=>F1 (qa i h) (λ t=>@L8 (λ _=>M I1) (W1 R0) (Sp ih i l) t)
 |.B0=>W1 R0
 |_=>F2 210
def Tp(i j m d m' d':C0):M I1:=bif Y1 (VP m m') 0 then W1 R0 else λ σ=>
 .YG 2 (λ x=>bif Y1 x 0 then .B9 I0 ((uN j (.RC (VP m m') (bif T9 d d' then d else d'))).bJ i (.al j))else .B9 R0 (wy i j))
def L10(i j:C0)(x y:TI):M I1:=match x with
 |.RC m d=>match y with
  |.RC m' d'=>Tp i j m d m' d'
  |y=>@jW PV (λ _=>M I1) (F2 211) (λ c=>DV ih i c) (vN y)
 |x=>@jW PV (λ _=>M I1) (F2 212) (λ c=>DV ih j c) (vN x)
def Up(i j:C0):M I1:=λ σ=>bif Y1 (I7 i) (I7 j)then W1 I0 σ else bif UA0 (I7 i) (I7 j)then .B9 R0 (wy (I7 i) (I7 j))
 else L10 ih (I7 i) (I7 j) (X8 (I7 i)) (X8 (I7 j)) σ
def wB0(l:PV):PV->M I1
 |.H0=>W1 R0|.O3 _=>W1 R0|.j0 _=>W1 R0|.Z0 _=>W1 R0|.Q0 m=>Ah ih l m|.ty j=>DV ih j l|_=>F2 213
def eqTy(i:C0):PV->M I1
 |.H0=>W1 R0|.O3 _=>W1 R0|.j0 _=>W1 R0|.Z0 _=>W1 R0|.Q0 m=>DV ih i m|.ty j=>Up ih i j|_=>F2 214
def M10(a:PV):PV->M I1:=match a with
 |.H0=>rB0
 |.O3 b=>eqBool b
 |.j0 i=>sB0 i
 |.Z0 n=>eqStr n
 |.Q0 l=>wB0 ih l
 |.ty i=>eqTy ih i
 |.pC i=>tB0 i
 |_=>λ _=>F2 215
end
def eqN(n:C0):PV->PV->M I1:=@bR (λ _=>PV->PV->M I1) (λ _ _=>F2 216) (λ _ ih=>M10 ih) n
def pj(a b:PV):M I1:=eqN 14 a b
def eqL(l m:PV):M I1:=Ah pj l m
def CY(a b:C0):C0:=bif Y1 a 0 then 0 else bif Y1 b 0 then 0 else bif T9 a b then b else a
def ya(a:C0):C0:=bif Y1 a 0 then 0 else LH a
def SD(p:PV):C0:=@X_ (λ _=>C0) 1 (λ _=>1) (λ _=>1) (λ _=>1) (λ _=>0) 1 (λ _ _ a r=>CY a r) (λ _ _ _ _ _=>0) (λ _ l=>ya l) (λ _=>0) (λ _=>0) (λ _=>7) (λ _=>16) (λ _=>1) p
def ZO(p:PV):I1:=bif Y1 (SD p) 0 then R0 else T9 (SD p) 60
def pA{α:Type}(w:C0)(b:I1)(m:M α):M α:=@L8 (λ _=>M α) (F2 w) m b
def eqD(a b:PV):M I1:=pA 230 (ZO a) (pA 231 (ZO b) (pj a b))
def N10(a b:PV):M I1:=pA 232 (ZO a) (pA 233 (ZO b) (eqL a b))
def O10:AO->AO->M I1
 |.M1 x,.M1 y=>bif JA x then W1 (JA y)else bif JA y then W1 R0 else N10 x y
 |.H2 x,.H2 y=>bif JA x then W1 (JA y)else bif JA y then W1 R0 else F2 217
 |_,_=>F2 218
def Ab:AO->PV->M I1
 |.M1 _,.Z0 _=>W1 R0
 |.M1 _,.Q0 _=>W1 R0
 |_,_=>F2 219
def Vp(a b:PV):M I1:=match a with
 |.J0 i=>match b with
  |.J0 j=>λ s=>O10 (M8 i) (M8 j) s
  |b=>λ s=>Ab (M8 i) b s
 |a=>match b with
  |.J0 j=>λ s=>Ab (M8 j) a s
  |b=>eqD a b
def Bb:AO->Q1 I1
 |.M1 l=>bif I5 l then E0 (!(JA l))else A2
 |.H2 l=>bif I5 l then E0 (!(JA l))else A2
 |_=>A2
def lC:PV->M I1
 |.H0=>W1 R0
 |.O3 b=>W1 b
 |.Q0 l=>bif I5 l then W1 (!(JA l))else F2 8
 |.J0 i=>λ s=>y5 7 (Bb (M8 i)) s
 |_=>F2 8
def Xp(a:PV)(l:PV):M I1:=OI (W1 R0) (λ b ih=>F1 (pj b a) (λ t=>@L8 (λ _=>M I1) ih (W1 I0) t)) (λ _ _ _=>F2 9) l
def inO(a:PV):AO->M I1
 |.M1 l=>pA 234 (ZO l) (pA 235 (ZO a) (Xp a l))
 |.H2 l=>match a with|.Z0 n=>@jW PV (λ _=>M I1) (W1 R0) (λ _=>W1 I0) (I4 n l)|_=>F2 10
 |_=>F2 10
def Yp(a b:PV):M I1:=match b with
 |.Q0 l=>pA 236 (ZO l) (pA 237 (ZO a) (Xp a l))
 |.J0 i=>λ s=>inO a (M8 i) s
 |_=>F2 11
def fE:PV->I1
 |.H0=>I0
 |_=>R0
def xB0(op:gG)(a b:B2):Q1 I1:=match op with
 |.gt=>E0 (Xg b a)
 |.lt=>E0 (Xg a b)
 |.ge=>E0 (!(Xg a b))
 |_=>A2
def Bh(op:gG)(a b:PV):M I1:=match a with
 |.j0 i=>match b with|.j0 j=>y5 12 (xB0 op i j)|_=>F2 13
 |_=>F2 14
def M.SX0(m:M I1):M I1:=F1 m λ b=>W1 (!b)
def S1(op:gG)(a b:PV):M I1:=
 @gG.n8 (λ _=>M I1) op (Vp a b) (M.SX0 (Vp a b)) (Yp a b) (M.SX0 (Yp a b)) (W1 (fE a)) (W1 (!(fE a))) (Bh .gt a b) (Bh .lt a b) (Bh .ge a b)
def XM:PV->Q1 C0
 |.Z0 s=>E0 (je s)
 |.EG n=>E0 n
 |_=>A2
def Zp(x y:C0):Q1 PV:=bif T9 (x+y) 100000 then E0 (.EG (x+y))else A2
def qp(a b:PV):Q1 PV:=match XM a with
 |E0 x=>match XM b with|E0 y=>Zp x y|A2=>A2
 |A2=>A2
def vp:AO->AO->Q1 PV
 |.M1 x,.M1 y=>bif I5 x then bif I5 y then E0 (nE y x)else A2 else A2
 |_,_=>A2
def P10(a b:PV):M PV:=match a with
 |.j0 i=>match b with|.j0 j=>W1 (.j0 (i+j))|_=>F2 15
 |.Q0 x=>match b with|.Q0 y=>bif I5 x then bif I5 y then W1 (.Q0 (nE y x))else F2 16 else F2 16|_=>F2 16
 |.J0 i=>match b with|.J0 j=>λ s=>F1 (y5 17 (vp (M8 i) (M8 j))) (λ l=>V9 (.M1 l)) s|_=>F2 17
 |a=>y5 18 (qp a b)
def binop(op:nK)(a b:PV):M PV:=match op with
 |.n6=>P10 a b
 |.w0=>match a with
  |.j0 i=>match b with|.j0 j=>W1 (.j0 (i-j))|_=>F2 19
  |_=>F2 19
 |.La=>match a with
  |.Q0 l=>match b with|.j0 (.O4 0)=>W1 (.Q0 .B0)|_=>F2 20
  |_=>F2 20
def Cb(l:PV):Q1 C0:=bif I5 l then E0 (Z5 l)else A2
def Q10:AO->Q1 C0
 |.M1 l=>Cb l
 |.H2 l=>Cb l
 |_=>A2
def R10:PV->M PV
 |.Q0 l=>F1 (y5 21 (Cb l)) λ n=>W1 (.j0 (.O4 n))
 |.J0 i=>λ s=>F1 (y5 21 (Q10 (M8 i))) (λ n=>W1 (.j0 (.O4 n))) s
 |_=>F2 22
def xy:PV->Q1 I1
 |.Q0 _=>E0 I0
 |.ty _=>E0 I0
 |.j0 _=>E0 R0
 |.Z0 _=>E0 R0
 |.H0=>E0 R0
 |.O3 _=>E0 R0
 |_=>A2
def Dh:AO->Q1 C0
 |.H2 l=>match l with
  |.kv k _ .B0=>E0 k
  |_=>A2
 |_=>A2
def yy(i:B2):I1:=match i with|.O4 n=>Y6 n 10|_=>R0
def b1(op:B1)(v:PV):M PV:=match op with
 |.Z5=>R10 v
 |.vg=>F1 (y5 23 (xy v)) λ b=>W1 (.O3 b)
 |.Ym=>match v with|.J0 i=>λ s=>F1 (y5 24 (Dh (M8 i))) (λ k=>V9 (.M1 (.A0 (.Z0 k) .B0))) s|_=>F2 24
 |.Z0=>match v with|.j0 i=>bif yy i then W1 (.EG 1)else F2 25|_=>F2 25
def RS(l:PV)(i:B2):Q1 PV:=match i with
 |.O4 n=>bif T9 n 60 then cJ l n else A2
 |.PB n=>bif T9 n 60 then cJ (YO l .B0) n else A2
def zp(i:PV):AO->Q1 PV
 |.M1 l=>match i with|.j0 k=>RS l k|_=>A2
 |.H2 l=>match i with|.Z0 k=>I4 k l|_=>A2
 |_=>A2
def EM(o i:PV):M PV:=match o with
 |.Q0 l=>match i with|.j0 k=>y5 26 (RS l k)|_=>F2 26
 |.J0 j=>λ s=>y5 27 (zp i (M8 j)) s
 |.ty j=>match i with
  |.j0 (.O4 0)=>W1 (.pC j)
  |.j0 k=>λ σ=>y5 28 ((vN (X8 (I7 j))).S6 λ c=>RS c k) σ
  |_=>F2 28
 |_=>F2 28
def Aq(i w:PV):AO->Q1 AO
 |.M1 l=>match i with|.j0 (.O4 k)=>bif I5 l then(zU l k w).Y4 .M1 else A2|_=>A2
 |.H2 l=>match i with|.Z0 k=>bif I5 l then E0 (.H2 (A6 k w l))else A2|_=>A2
 |_=>A2
section
variable(FZ:Nat->Bool)
def ME(i:C0)(o:AO):M T7:=bif FZ i then F2 29 else wW i o
def rc(o i w:PV):M T7:=match o with
 |.J0 j=>λ s=>F1 (y5 30 (Aq i w (M8 j))) (λ x=>ME FZ j x) s
 |_=>F2 30
def Eb(n:C0)(d:C0):PV->Q1 C0
 |.H0=>E0 d
 |.j0 (.O4 k)=>E0 (bif T9 k n then k else n)
 |.j0 (.PB k)=>E0 (n-(k+1))
 |_=>A2
def Ja(l:PV)(a b:C0):PV:=Pp (Np l a) (b-a)
def Eh(l lo hi:PV):Q1 PV:=bif I5 l then(match Eb (Z5 l) 0 lo with
 |E0 a=>match Eb (Z5 l) (Z5 l) hi with|E0 b=>E0 (Ja l a b)|A2=>A2
 |A2=>A2)else A2
def S10(lo hi:PV):AO->Q1 PV
 |.M1 l=>Eh l lo hi
 |_=>A2
def iE(o lo hi:PV):M PV:=match o with
 |.Q0 l=>F1 (y5 31 (Eh l lo hi)) λ r=>W1 (.Q0 r)
 |.J0 j=>λ s=>F1 (y5 32 (S10 lo hi (M8 j))) (λ r=>V9 (.M1 r)) s
 |_=>F2 32
def T10:AO->Q1 PV
 |.M1 l=>bif I5 l then E0 l else A2
 |_=>A2
def BQ(o:PV):M PV:=match o with
 |.J0 j=>λ s=>F1 (y5 33 (T10 (M8 j))) (λ r=>V9 (.M1 (YO r .B0))) s
 |_=>F2 33
structure Cl where
 meths:PV
 wq:I1
 E_:C0
inductive Pm where
 |B0
 |N1(x:C0)(r:Pm)
 |XN(x:C0)(d:PV)(r:Pm)
@[reducible] def Pm.MJ(x:Pm):C0:=@Pm.n8 (λ _=>C0) x 0 (λ _ _=>1) (λ _ _ _=>2)
def Pm.S6(p:Pm):PV->Q1 PV:=
 @Pm.NR (λ _=>PV->Q1 PV)
  (λ l=>match l with|.B0=>E0 .B0|_=>A2)
  (λ x _ ih l=>match l with|.A0 a r=>(ih r).Y4 (.kv x a)|_=>A2)
  (λ x d _ ih l=>match l with|.A0 a r=>(ih r).Y4 (.kv x a)|.B0=>(ih .B0).Y4 (.kv x d)|_=>A2) p
set_option genInjectivity true in
inductive Y3 where
 |no
 |fn(p:Pm)(b:S)
 |i7(k:C0)(p:Pm)(b:S)
 |O2(c:Cl)
@[reducible] def Y3.MJ(x:Y3):C0:=@rZ (λ _=>C0) x 0 (λ _ _=>1) (λ _ _ _=>2) (λ _=>3)
structure mI where
 l7:C0->Y3
 qA:C0->Pm
 U10:C0->C
 i7:C0->PV->K1->Q1 (H7 PV)
variable(T:Tab)
def JQ(c:C0):Q1 Cl:=match UF c with|.O2 k=>bif PI then A2 else E0 k|_=>A2
def DY:C0:=1716671264171921783646689952286
def Bq:AO->PV
 |.W6 l=>l
 |_=> .B0
def Cq(s:K1):AO->PV
 |.w7 _ d=>Bq (M8 d)
 |.K8 _ _ d=>Bq (M8 d)
 |_=> .B0
def EY(c:C0)(x:C0):Q1 C0:=match JQ T c with
 |E0 k=>match I4 x QI with|E0 (.Y0 a)=>E0 a|_=>A2
 |A2=>A2
def V10(x:C0)(o:PV):AO->M PV
 |.w7 c _=>bif Y1 x DY then F1 (y5 34 (EY T c x)) (λ a=>V9 (.bm a o))else F2 34
 |_=>F2 34
def aO(c x:C0):I1:=match JQ T c with|E0 k=>(match I4 x QI with|A2=>I0|_=>R0)|A2=>R0
def W10(c x:C0)(o:PV):AO->M PV
 |.W6 l=>match I4 x l with
  |E0 v=>bif aO T c x then W1 v else F2 35
  |A2=>V10 T x o (.w7 c 0)
 |_=>F2 35
def X10(x:C0)(o:PV):AO->M PV
 |.w7 c d=>λ s=>W10 T c x o (M8 d) s
 |_=>F2 35
def xt(o:PV)(x:C0):M PV:=match o with
 |.J0 i=>λ s=>X10 T x o (M8 i) s
 |_=>F2 35
def Y10(c d x:C0)(w:PV):AO->M T7
 |.W6 l=>bif aO T c x then(bif I5 l then ME FZ d (.W6 (A6 x w l))else F2 36)else F2 36
 |_=>F2 36
def Z10(x:C0)(w:PV):AO->M T7
 |.w7 c d=>λ s=>Y10 FZ T c d x w (M8 d) s
 |_=>F2 36
def ar(o:PV)(x:C0)(w:PV):M T7:=match o with
 |.J0 i=>λ s=>Z10 FZ T x w (M8 i) s
 |_=>F2 36
def nA:C0:=1114179
def Dq:C0:=1241313509495
def Hh:C0->C0->P0 C0
 |0,_=>[]
 |k+1,n=>bif Y1 n 1 then[]else(n%1114113-1)::Hh k (n/1114113)
def dc(n:C0):P0 C0:=Hh 200 n
def Ih(a s b:C0):C0:=c7 (dc a++(dc s++dc b))
def SS(a:C0):I1:=T9 (je a) 3900
def r_(p:PV):Q1 PV:=match p with
 |.Q0 l=>E0 l
 |_=>A2
def qH(p:PV):Q1 (PV×PV):=match p with
 |.A0 a r=>E0 (a,r)
 |_=>A2
def US(p:PV):Q1 C0:=match p with
 |.Z0 n=>E0 n
 |_=>A2
def YM(p:PV):I1:=match p with
 |.B0=>I0
 |_=>R0
def a10(s:C0)(l:PV):Q1 C0:=
 (qH l).S6 λ x=>(US x.1).S6 λ a=>bif SS a then bif SS s then
  (bif YM x.2 then E0 a else(qH x.2).S6 λ y=>(US y.1).S6 λ b=>bif YM y.2 then bif SS b then E0 (Ih a s b)else A2 else A2)else A2 else A2
def FY(CQ:C0)(l:PV):Q1 C0:=OI (E0 0) (λ a ih=>match XM a with|E0 n=>ih.Y4 λ m=>n+CQ+m|A2=>A2) (λ _ _ _=>A2) l
def Fq(s:C0)(l:PV):Q1 PV:=match a10 s l with
 |E0 n=>E0 (.Z0 n)
 |A2=>match FY (je s) l with|E0 n=>Zp n 0|A2=>A2
def b10:AO->Q1 PV
 |.M1 l=>bif I5 l then E0 l else A2
 |_=>A2
def H5(v:PV):M PV:=match v with
 |.Q0 l=>bif I5 l then W1 l else F2 37
 |.J0 i=>λ s=>y5 37 (b10 (M8 i)) s
 |_=>F2 37
def Jh(m:Mt)(n:C0)(L1:PV):M PV:=match m with
 |.sP=>match L1 with
  |.A0 v .B0=>F1 (H5 v) λ l=>y5 38 (Fq n l)
  |_=>F2 38
 |.nR=>match L1 with
  |.A0 (.Z0 k) .B0=>bif Y1 n nA then bif Y1 k Dq then V9 (.M1 (.A0 (.Z0 nA) .B0))else F2 39 else F2 39
  |_=>F2 39
 |_=>F2 39
def Fb(m:Mt)(i:C0)(l L1:PV):M PV:=match m with
 |.VI=>match L1 with
  |.A0 v .B0=>bif I5 l then F1 (ME FZ i (.M1 (wR v l))) λ _=>W1 SH else F2 40
  |_=>F2 40
 |.jK=>match L1 with
  |.B0=>match bif I5 l then Ve l else A2 with
   |E0 p=>F1 (ME FZ i (.M1 p.1)) λ _=>W1 p.2
   |A2=>F2 41
  |_=>F2 41
 |.pN=>match L1 with
  |.A0 v .B0=>F1 (H5 v) λ r=>bif I5 l then bif I5 r then F1 (ME FZ i (.M1 (nE r l))) λ _=>W1 SH else F2 42 else F2 42
  |_=>F2 42
 |_=>F2 43
def dJ(d:PV)(l:PV):PV:=OI (λ d=>d) (λ _ ih d=>ih d) (λ k v ih d=>ih (A6 k v d)) l d
def Gb(m:Mt)(i:C0)(l L1:PV):M PV:=match m with
 |.o9=>match L1 with
  |.A0 (.Z0 k) (.A0 d .B0)=>W1 ((I4 k l).jI d)
  |_=>F2 44
 |.LU=>match L1 with
  |.A0 (.Z0 k) (.A0 d .B0)=>bif I5 l then(match I4 k l with
   |E0 v=>W1 v
   |A2=>F1 (ME FZ i (.H2 (A6 k d l))) λ _=>W1 d)else F2 45
  |_=>F2 45
 |.JF=>match L1 with
  |.A0 (.J0 j) .B0=>bif Y1 i j then F2 46 else λ s=>(match M8 j with
   |.H2 r=>bif I5 l then bif I5 r then F1 (ME FZ i (.H2 (dJ l r))) λ _=>W1 SH else F2 46 else F2 46
   |_=>F2 46) s
  |_=>F2 46
 |_=>F2 47
inductive It where
 |W5(l:PV)
 |DG(i k:C0)
 |jG(a n:C0)
 |v8(a b:It)
 |OE(n:C0)(a:It)
@[reducible] def It.MJ(x:It):C0:=@QP (λ _=>C0) x (λ _=>0) (λ _ _=>1) (λ _ _=>2) (λ _ _=>3) (λ _ _=>4)
def fJ(v:PV):M It:=match v with
 |.Q0 l=>W1 (.W5 l)
 |.J0 i=>λ s=>(match M8 i with|.M1 _=>W1 (tW i 0)|_=>F2 61) s
 |_=>F2 61
def It.W4:It->M (Q1 (PV×It))
 |.W5 l=>match l with
  |.A0 a r=>W1 (E0 (a,.W5 r))
  |.B0=>W1 A2
  |_=>F2 62
 |.DG i k=>λ s=>(match M8 i with
  |.M1 l=>match cJ l k with
   |E0 a=>W1 (E0 (a,tW i (k+1)))
   |A2=>W1 A2
  |_=>F2 63) s
 |.jG a n=>bif Y6 a n then W1 (E0 (.j0 (.O4 a),.jG (a+1) n))else W1 A2
 |.v8 a b=>F1 zP λ x=>match x with
  |E0 p=>F1 b.W4 λ y=>match y with
   |E0 q=>W1 (E0 (.Q0 (.A0 p.1 (.A0 q.1 .B0)),.v8 p.2 q.2))
   |A2=>W1 A2
  |A2=>W1 A2
 |.OE n a=>F1 zP λ x=>match x with
  |E0 p=>W1 (E0 (.Q0 (.A0 (.j0 (.O4 n)) (.A0 p.1 .B0)),.OE (n+1) p.2))
  |A2=>W1 A2
def Gq(t:C):I1:=match t with
 |.Q0 _=>I0
 |_=>R0
def EV:It->C->I1
 |.v8 _ _,t=>Gq t
 |.OE _ _,t=>Gq t
 |_,_=>I0
inductive Fl where
 |W4(e:PV)
 |cB(e:PV)
 |bB(e:PV)
 |U1(v e:PV)
@[reducible] def Fl.MJ(x:Fl):C0:=@Ag (λ _=>C0) x (λ _=>0) (λ _=>1) (λ _=>2) (λ _ _=>3)
structure C5 where
 B6:C->PV->M PV
 AE:S->PV->M Fl
 K2:PV->PV->M PV
 Hq:C->It->S->PV->M Fl
 tv:C->S->PV->M Fl
 Iq:C->C->It->C0->PV->M T7
def Kh(ih:C5)(p:Pm)(b:S)(L1:PV):M PV:=
 F1 (y5 48 (v00 L1)) λ O0=>F1 (cC b (dJ .B0 O0)) λ f=>match f with
  |.U1 v _=>W1 v
  |.W4 _=>W1 .H0
  |_=>F2 49
def kG:C0:=2130808652919413082379463711048103649149677
def qK:C0:=1540857841636270507557323
def Lh(L1:PV):Q1 PV:=(qH L1).S6 λ x=>bif YM x.2 then E0 (.kv kG x.1 (.kv qK (.j0 (.O4 0)) .B0))
 else(qH x.2).S6 λ y=>bif YM y.2 then E0 (.kv kG x.1 (.kv qK y.1 .B0))else A2
def Az(d:PV)(f:C0->AO):M PV:=F1 (V9 (.W6 d)) λ r=>match r with
 |.J0 i=>V9 (f i)
 |_=>F2 50
def Ib(cx:I1)(c:C0)(d:PV):M PV:=F1 (V9 .K4) λ _=>Az d (.K8 cx c)
def Jq(v:PV):M T7:=match v with|.H0=>W1 ()|_=>F2 51
def Jb(ih:C5)(a:C0)(k:Cl)(L1:PV):M PV:=
 bif PI then F1 (y5 52 (Lh L1)) λ d=>Ib R0 a d
 else F1 (Az .B0 (.w7 a)) λ o=>F1 (Wf (.Y0 fP) (.A0 o L1)) λ v=>F1 (Jq v) λ _=>W1 o
def Lb(ih:C5)(a:C0)(L1:PV):M PV:=match UF a with
 |.fn p b=>Kh ih p b L1
 |.i7 k p b=>λ s=>match T.i7 k L1 s with
  |E0 o=>o
  |A2=>Kh ih p b L1 s
 |.O2 k=>Jb ih a k L1
 |.no=>F2 53
def Mh(L1:PV):M PV:=match L1 with
 |.A0 _ (.A0 v (.A0 _ .B0))=>EM v (.j0 (.O4 2))
 |_=>F2 54
def yB0(ih:C5)(f L1:PV):M PV:=match f with
 |.Y0 a=>Lb T ih a L1
 |.J0 i=>λ s=>(match M8 i with
  |.qA _=>Mh L1
  |_=>F2 54) s
 |_=>F2 55
def Kq:Mt->I1
 |.sP=>I0|.nR=>I0|_=>R0
def Lq:Mt->I1
 |.VI=>I0|.jK=>I0|.pN=>I0|_=>R0
def Mq:Mt->I1
 |.o9=>I0|.LU=>I0|.JF=>I0|_=>R0
def c10(x c:C0)(o:PV):AO->M (PV×PV)
 |.W6 l=>match I4 x l with
  |E0 g=>bif aO T c x then(bif fE g then F2 56 else W1 (g,.B0))else F2 56
  |A2=>F1 (y5 56 (EY T c x)) λ a=>W1 (.Y0 a,.A0 o .B0)
 |_=>F2 56
def i10(m:Mt)(x:C0)(o:PV):AO->M (PV×PV)
 |.M1 _=>bif Lq m then W1 (.H0,.B0)else F2 57
 |.H2 _=>bif Mq m then W1 (.H0,.B0)else F2 57
 |.w7 c d=>λ s=>c10 T x c o (M8 d) s
 |_=>F2 57
def j10(m:Mt)(x:C0)(o:PV):M (PV×PV):=match o with
 |.Z0 _=>bif Kq m then W1 (.H0,.B0)else F2 57
 |.J0 i=>λ s=>i10 T m x o (M8 i) s
 |_=>F2 57
def l10(m:Mt)(i:C0)(L1:PV):AO->M PV
 |.M1 l=>Fb FZ m i l L1
 |.H2 l=>Gb FZ m i l L1
 |_=>F2 57
def n10(m:Mt)(o L1:PV):M PV:=match o with
 |.Z0 n=>Jh m n L1
 |.J0 i=>λ s=>l10 FZ m i L1 (M8 i) s
 |_=>F2 57
def o10(ih:C5)(m:Mt)(o L1:PV)(p:PV×PV):M PV:=match p.1 with
 |.H0=>n10 FZ m o L1
 |f=>Wf f (nE L1 p.2)
def OC(ih:C5)(e:C)(O0:PV):M I1:=F1 (R5 e O0) lC
def ZM(ih:C5)(O0:PV):C->M PV
 |.B0=>W1 .B0
 |.A0 e r=>F1 (R5 e O0) λ v=>F1 (ZM ih O0 r) λ vs=>W1 (.A0 v vs)
 |_=>F2 58
def Zm:PV->PV->Q1 PV
 |.B0,d=>E0 d
 |.A0 (.Z0 k) (.A0 v r),d=>Zm r (A6 k v d)
 |_,_=>A2
def GY(l:PV):Q1 (C0×PV):=match qH l with
 |E0 x=>match US x.1 with
  |E0 k=>match qH x.2 with
   |E0 y=>bif YM y.2 then E0 (k,y.1)else A2
   |A2=>A2
  |A2=>A2
 |A2=>A2
def RI(l:PV):Q1 PV:=OI (E0 .B0) (λ a ih=>match r_ a with
 |E0 l=>match GY l with
  |E0 q=>ih.Y4 (.kv q.1 q.2)
  |A2=>A2
 |A2=>A2) (λ _ _ _=>A2) l
def VS(l:PV):PV:=dJ .B0 l
def KQ(ih:C5)(O0:PV):C->M It
 |.T4 e=>F1 (R5 e O0) fJ
 |.pK a b=>F1 (R5 a O0) λ v=>F1 (R5 b O0) λ w=>F1 (fJ v) λ x=>F1 (fJ w) λ y=>W1 (.v8 x y)
 |.wX a=>F1 (R5 a O0) λ v=>F1 (fJ v) λ x=>W1 (.OE 0 x)
 |.aa e=>F1 (R5 e O0) λ v=>match v with|.j0 (.O4 n)=>bif T9 n 60 then W1 (.jG 0 n)else F2 65|_=>F2 65
 |_=>F2 66
def Nh(l:PV):M PV:=F1 (y5 67 (RI l)) λ d=>V9 (.H2 (VS d))
def lG(σ:K1):It->Q1 PV
 |.W5 l=>E0 l
 |.DG i k=>bif Y1 k 0 then(match CA i with|.M1 l=>E0 l|_=>A2)else A2
 |_=>A2
def rK(l:PV):PV->PV:=OI (λ _=> .B0) (λ a ih m=>match m with|.A0 b q=> .A0 (.Q0 (.A0 a (.A0 b .B0))) (ih q)|_=> .B0) (λ _ _ _ _=> .B0) l
def HY(l:PV):C0->PV:=OI (λ _=> .B0) (λ a ih n=> .A0 (.Q0 (.A0 (.j0 (.O4 n)) (.A0 a .B0))) (ih (LH n))) (λ _ _ _ _=> .B0) l
def Nq(n:C0):C0->PV:=@bR (λ _=>C0->PV) (λ _=> .B0) (λ _ ih a=> .A0 (.j0 (.O4 a)) (ih (LH a))) n
def Oq(a b:It):M PV:=λ σ=>F1 (y5 69 (lG σ a)) (λ l=>F1 (y5 69 (lG σ b)) λ m=>pA 69 (I5 l&&I5 m) (W1 (rK l m))) σ
def aM(k:Mk)(a:It):M PV:=match k with
 |.Q0=>(match a with
  |.OE n x=>λ σ=>F1 (y5 69 (lG σ x)) (λ l=>pA 69 (I5 l&&Y1 n 0) (W1 (.Q0 (HY l 0)))) σ
  |_=>F2 69)
 |.M1=>(match a with
  |.v8 x y=>F1 (Oq x y) λ l=>V9 (.M1 l)
  |.jG a n=>pA 69 (Y1 a 0) (V9 (.M1 (Nq n 0)))
  |_=>F2 69)
 |.H2=>(match a with
  |.v8 x y=>F1 (Oq x y) Nh
  |_=>F2 69)
def Pq(k:Mk)(v:PV):M PV:=match k with
 |.Q0=>F1 (H5 v) λ l=>W1 (.Q0 l)
 |.M1=>match v with
  |.J0 i=>λ s=>F1 (y5 68 (Dh (M8 i))) (λ k=>V9 (.M1 (.A0 (.Z0 k) .B0))) s
  |_=>F2 68
 |.H2=>match v with
  |.J0 i=>λ s=>(match M8 i with
   |.H2 l=>bif I5 l then V9 (.H2 l)else F2 69
   |.M1 l=>bif I5 l then Nh l else F2 69
   |_=>F2 69) s
  |_=>F2 69
def eMk(ih:C5)(k:Mk)(it:C)(O0:PV):M PV:=match it with
 |.T4 e=>F1 (R5 e O0) (Pq k)
 |it=>F1 (KQ ih O0 it) (aM k)
def Qq(ih:C5)(f l:C)(O0:PV):M PV:=F1 (R5 f O0) λ fv=>F1 (ZM ih O0 l) λ vs=>Wf fv vs
def r10(ih:C5)(m:Mt)(x:C0)(o l:C)(O0:PV):M PV:=F1 (R5 o O0) λ ov=>F1 (j10 T m x ov) λ p=>F1 (ZM ih O0 l) λ vs=>o10 FZ ih m ov vs p
def s10(ih:C5)(o i:C)(O0:PV):M PV:=F1 (R5 o O0) λ ov=>F1 (R5 i O0) λ iv=>EM ov iv
def zB0(ih:C5)(op:gG)(a b:C)(O0:PV):M PV:=F1 (R5 a O0) λ x=>F1 (R5 b O0) λ y=>F1 (S1 op x y) λ r=>W1 (.O3 r)
def AC0(ih:C5)(a b:C)(O0:PV):M PV:=F1 (R5 a O0) λ v=>F1 (lC v) λ t=>UI t (R5 b O0) (W1 v)
def eOr(ih:C5)(a b:C)(O0:PV):M PV:=F1 (R5 a O0) λ v=>F1 (lC v) λ t=>UI t (W1 v) (R5 b O0)
def u10(ih:C5)(op:nK)(a b:C)(O0:PV):M PV:=F1 (R5 a O0) λ x=>F1 (R5 b O0) λ y=>binop op x y
def w10(ih:C5)(o lo hi:C)(O0:PV):M PV:=F1 (R5 o O0) λ ov=>F1 (R5 lo O0) λ a=>F1 (R5 hi O0) λ b=>iE ov a b
def IY:PV->Q1 C0
 |.J0 i=>E0 i
 |_=>A2
def Oh(i:C0)(d:PV):AO->M T7
 |.H2 l=>bif JA l then wW i (.H2 d)else F2 70
 |_=>F2 70
def Rq(i:C0)(d:PV):M T7:=λ s=>Oh i d (M8 i) s
def x10(ih:C5)(l:C)(O0:PV):M PV:=F1 (V9 (.H2 .B0)) λ r=>F1 (y5 70 (IY r)) λ i=>F1 (ZM ih O0 l) λ vs=>F1 (y5 70 (Zm vs .B0)) λ d=>F1 (Rq i d) λ _=>W1 r
def GV(A7 t:C):C:=match A7 with
 |.B0=>t
 |_=> .M2
def Sq(ih:C5)(Y5 Q4 A7 it:C)(O0:PV):M PV:=F1 (KQ ih O0 it) λ a=>pA 71 (EV a Q4) (F1 (V9 (.M1 .B0)) λ r=>F1 (y5 71 (IY r)) λ i=>F1 (O_ Y5 (GV A7 Q4) a i O0) λ _=>W1 r)
def sE(ih:C5)(e:C)(O0:PV):M PV:=
 @C.NR (λ _=>M PV)
  (F2 72) (λ v=>W1 v) (λ x=>y5 73 (I4 x O0)) (F2 72) (λ _ _ _ _=>F2 72)
  (λ f l _ _=>Qq ih f l O0)
  (λ m x o l _ _=>r10 FZ T ih m x o l O0)
  (λ x o _=>F1 (R5 o O0) λ ov=>xt T ov x)
  (λ o i _ _=>s10 ih o i O0)
  (λ op a b _ _=>zB0 ih op a b O0)
  (λ l _=>F1 (ZM ih O0 l) λ vs=>W1 (.Q0 vs))
  (λ l _=>F1 (ZM ih O0 l) λ vs=>V9 (.M1 vs))
  (λ l _=>x10 ih l O0)
  (λ c a b _ _ _=>F1 (OC ih c O0) λ t=>UI t (R5 a O0) (R5 b O0))
  (λ a b _ _=>AC0 ih a b O0)
  (λ a b _ _=>eOr ih a b O0)
  (λ a _=>F1 (OC ih a O0) λ t=>W1 (.O3 (!t)))
  (λ op a b _ _=>u10 ih op a b O0)
  (λ o lo hi _ _ _=>w10 ih o lo hi O0)
  (λ o _=>F1 (R5 o O0) BQ)
  (λ op e _=>F1 (R5 e O0) (b1 op))
  (λ k it _=>eMk ih k it O0)
  (λ Y5 Q4 A7 it _ _ _ _=>Sq ih Y5 Q4 A7 it O0)
  (λ k=>V9 (.qA k))
  (λ _ _=>F2 72) (λ _ _ _ _=>F2 72) (λ _ _=>F2 72) (λ _ _=>F2 72) e
def aC(ih:C5):C->PV->PV->M PV
 |.F0 x,v,O0=>W1 (A6 x v O0)
 |.Z1 x o,v,O0=>F1 (R5 o O0) λ ov=>F1 (ar FZ T ov x v) λ _=>W1 O0
 |.w0 o i,v,O0=>F1 (R5 o O0) λ ov=>F1 (R5 i O0) λ iv=>F1 (rc FZ ov iv v) λ _=>W1 O0
 |.Q0 ts,v,O0=>match v with
  |.Q0 l=>Tq ts l O0
  |.J0 i=>λ s=>(match M8 i with|.M1 l=>Tq ts l O0|_=>F2 74) s
  |_=>F2 74
 |_,_,_=>F2 74
where Tq:C->PV->PV->M PV
 |.B0,.B0,O0=>W1 O0
 |.A0 t ts,.A0 v vs,O0=>match t with
  |.F0 x=>Tq ts vs (A6 x v O0)
  |_=>F2 75
 |_,_,_=>F2 75
def Mb(o:AO):Q1 C0:=match o with|.K8 _ c _=>E0 c|_=>A2
def y10(o:AO):I1:=match o with|.K8 cx _ _=>!cx|_=>R0
def Y9(c:C0):I1:=match UF c with|.O2 k=>PI|_=>R0
def Uq(i d a y:C0)(O0:PV):M Fl:=λ s=>
 F1 (y5 76 (I4 a (Cq s (M8 i)))) (λ m=>F1 (y5 76 (I4 y O0)) λ p=>F1 (Ib I0 d (.kv kG m (.kv qK p .B0))) λ r=>F1 (y5 76 (IY r)) λ j=>Fo j) s
def LQ(O0:PV):C->Q1 PV
 |.B0=>E0 .B0
 |.A0 (.F0 x) r=>match I4 x O0 with|E0 v=>(LQ O0 r).Y4 (.A0 v)|A2=>A2
 |.A0 (.v0 v) r=>(LQ O0 r).Y4 (.A0 v)
 |_=>A2
def A20(l:C)(O0:PV):M Fl:=F1 (y5 83 (LQ O0 l)) λ vs=>F1 (V9 (.M1 vs)) λ v=>W1 (.U1 v O0)
def VU(i:C0)(O0:PV):S->M Fl
 |.B0=>Fo i
 |.oU c v r=>λ s=>F1 (y5 77 (Mb (M8 i))) (λ d=>pA 77 (Y9 T c&&Y9 T d) (bif Y1 c d then W1 (.U1 v O0)else VU i O0 r)) s
 |.wg c l r=>λ s=>F1 (y5 77 (Mb (M8 i))) (λ d=>pA 77 (Y9 T c&&Y9 T d) (bif Y1 c d then A20 l O0 else VU i O0 r)) s
 |.xg c x d a y r=>λ s=>F1 (y5 77 (Mb (M8 i))) (λ e=>pA 77 (Y9 T c&&Y9 T e&&Y9 T d) (bif Y1 c e then pA 76 (y10 (M8 i)) (Uq i d a y O0)else VU i O0 r)) s
 |_=>F2 78
def B20(v:PV):M Fl:=match v with
 |.J0 i=>λ s=>(match M8 i with|.K8 _ c _=>pA 79 (Y9 T c) (Fo i)|_=>F2 79) s
 |_=>F2 79
def tK(ih:C5)(r:S)(f:Fl):M Fl:=match f with
 |.W4 e=>cC r e
 |f=>W1 f
def C20(ih:C5)(t e:C)(r:S)(O0:PV):M Fl:=F1 (R5 e O0) λ v=>F1 (aC FZ T ih t v O0) λ W9=>cC r W9
def sIf(ih:C5)(c:C)(a b r:S)(O0:PV):M Fl:=F1 (OC ih c O0) λ t=>F1 (UI t (cC a O0) (cC b O0)) λ f=>tK ih r f
def D20(ih:C5)(b h r:S)(O0:PV):M Fl:=F1 (λ s=>sx (λ i=>VU T i O0 h) (cC b O0 s)) λ f=>tK ih r f
def Ph(ih:C5)(st:S)(O0:PV):M Fl:=
 @S.NR (λ _=>M Fl) (W1 (.W4 O0)) (F2 80)
  (λ t e r _=>C20 FZ T ih t e r O0)
  (λ e=>F1 (R5 e O0) λ v=>W1 (.U1 v O0))
  (λ c a b r _ _ _=>sIf ih c a b r O0)
  (λ e r _=>F1 (R5 e O0) λ _=>cC r O0)
  (λ t it b r _ _=>F1 (KQ ih O0 it) λ a=>pA 84 (EV a t) (F1 (om t a b O0) λ f=>tK ih r f))
  (λ c b r _ _=>F1 (We c b O0) λ f=>tK ih r f)
  (W1 (.cB O0)) (W1 (.bB O0))
  (λ e=>F1 (R5 e O0) (B20 T))
  (λ b h r _ _ _=>D20 T ih b h r O0)
  (λ _ _ _ _=>F2 80) (λ _ _ _ _=>F2 80) (λ _ _ _ _ _ _ _=>F2 80)
  (λ x r _=>F1 (V9 .K4) λ f=>cC r (A6 x f O0)) st
def Df(k:PV->M Fl)(r:Fl):M Fl:=match r with
 |.W4 e=>k e
 |.bB e=>k e
 |.cB e=>W1 (.W4 e)
 |.U1 v e=>W1 (.U1 v e)
def BC0(ih:C5)(Q4:C)(a:It)(P4:S)(O0:PV):M Fl:=F1 zP λ o=>match o with
 |A2=>W1 (.W4 O0)
 |E0 p=>F1 (aC FZ T ih Q4 p.1 O0) λ e1=>F1 (cC P4 e1) λ f=>Df (om Q4 p.2 P4) f
def nV0(ih:C5)(t:C)(P4:S)(O0:PV):M Fl:=F1 (OC ih t O0) λ c=>UI c (F1 (cC P4 O0) λ f=>Df (We t P4) f) (W1 (.W4 O0))
def Vq(r:C0)(x:PV):M T7:=λ s=>(match M8 r with
 |.M1 l=>bif I5 l then wW r (.M1 (wR x l))else F2 82
 |_=>F2 82) s
def CC0(ih:C5)(Y5 Q4:C)(a:It)(r:C0)(O0:PV):M T7:=F1 zP λ o=>match o with
 |A2=>W1 ()
 |E0 p=>F1 (aC FZ T ih Q4 p.1 O0) λ e1=>F1 (R5 Y5 e1) λ x=>F1 (Vq r x) λ _=>O_ Y5 Q4 p.2 r O0
def K6(ih:C5):C5 where
 B6:=sE FZ T ih
 AE:=Ph FZ T ih
 K2:=yB0 T ih
 Hq:=BC0 FZ T ih
 tv:=nV0 ih
 Iq:=CC0 FZ T ih
def K9:C5 where
 B6 _ _:=F2 0
 AE _ _:=F2 0
 K2 _ _:=F2 0
 Hq _ _ _ _:=F2 0
 tv _ _ _:=F2 0
 Iq _ _ _ _ _:=F2 0
def nD(n:C0):C5:=@bR (λ _=>C5) K9 (λ _ ih=>K6 FZ T ih) n
end
end
end
section
section
inductive Wq:PV->Q1 PV->Prop
 |no p:Wq p H0
 |F6 l:Wq (.Q0 l) (E0 l)
inductive Xq:PV->Q1 (PV×PV)->Prop
 |no p:Xq p H0
 |F6 a r:Xq (.A0 a r) (E0 (a,r))
inductive Yq:PV->Q1 C0->Prop
 |no p:Yq p H0
 |F6 n:Yq (.Z0 n) (E0 n)
theorem DC0(p:PV):Wq p (r_ p):=by cases p using Q3<;>first|exact .F6 _|exact .no _
theorem FC0(p:PV):Xq p (qH p):=by cases p using Q3<;>first|exact .F6 _ _|exact .no _
theorem GC0(p:PV):Yq p (US p):=by cases p using Q3<;>first|exact .F6 _|exact .no _
theorem E20{p l:PV}(h:r_ p=E0 l):p=.Q0 l:=by
 have q:=DC0 p;rw[h]at q;cases q;rfl
theorem MQ{p a r:PV}(h:qH p=E0 (a,r)):p=.A0 a r:=by
 have q:=FC0 p;rw[h]at q;cases q;rfl
theorem Qh{p:PV}{n:C0}(h:US p=E0 n):p=.Z0 n:=by
 have q:=GC0 p;rw[h]at q;cases q;rfl
theorem HV{p:PV}(h:YM p=I0):p=.B0:=by cases p using Q3<;>first|rfl|exact U3 h PG
theorem WS{α β:Type}{o:Q1 α}{f:α->Q1 β}{b:β}(h:o.S6 f=E0 b):∃a,o=E0 a/\f a=E0 b:=q9 h
theorem UC{α:Type}{c:I1}{o:Q1 α}{y:α}(h:(bif c then o else H0)=E0 y):c=I0/\o=E0 y:=by
 cases c using o7 with
 |I0=>exact⟨O,h⟩
 |R0=>contradiction
theorem IG{α:Type}{c:I1}{m:M α}{n:C0}{σ:K1}{P:α->K1->Prop}{X:C0->K1->Prop}(h:((bif c then m else F2 n) σ).P1 P X):c=I0/\(m σ).P1 P X:=by
 cases c using o7 with
 |I0=>exact⟨O,h⟩
 |R0=>exact J6.KB h
theorem F20{α:Type}{c:I1}{a b y:α}(h:(bif c then a else b)=y):(c=I0/\a=y)\/(c=R0/\b=y):=by
 cases c using o7 with
 |I0=>exact .S2 ⟨O,h⟩
 |R0=>exact .L2 ⟨O,h⟩
noncomputable abbrev z5:=P0 (u0×FK)
def E7(L:z5)(x:u0):I1:=match G9 x with|E0 .SL=>I0|_=>R0
def n7(L:z5)(x:u0):I1:=match G9 x with|E0 .G7=>I0|E0 .l6=>I0|E0 .j7=>I0|_=>R0
def A5(x:u0):I1:=!(x==("__debug__":u0))&&!(x==("__classdict__":u0))&&!(x==(".0":u0))&&!(Y1 (vc x) 0)
def z6(L:z5)(x:u0):I1:=match G9 x with|E0 .G7=>I0|E0 .l6=>I0|_=>R0
theorem Zq{L:z5}{x:u0}(h:E7 L x=I0):G9 x=E0 .SL:=by
 unfold E7 at h;generalize G9 x=k at h ⊢;cases k using i9 with
 |H0=>contradiction
 |E0 k=>cases k using FK.n8<;>first|rfl|contradiction
theorem HC0{L:z5}{x:u0}(h:n7 L x=I0):G9 x=E0 .G7\/G9 x=E0 .l6\/G9 x=E0 .j7:=by
 unfold n7 at h;generalize G9 x=k at h ⊢;cases k using i9 with
 |H0=>contradiction
 |E0 k=>cases k using FK.n8<;>first|exact .S2 O|exact .L2 (.S2 O)|exact .L2 (.L2 O)|contradiction
theorem IC0{L:z5}{x:u0}(h:z6 L x=I0):G9 x=E0 .G7\/G9 x=E0 .l6:=by
 unfold z6 at h;generalize G9 x=k at h ⊢;cases k using i9 with
 |H0=>contradiction
 |E0 k=>cases k using FK.n8<;>first|exact .S2 O|exact .L2 O|contradiction
def attrs:P0 u0:=(["adt_type","adts","append","are_alike","asked","bare","bind","bodies","bound_of","bounds","candidates","coerce","consts","defaults","expr","extend","find","fnref","fresh","generics","get","has_body","impls","index","infer","inputs","is_enum","is_number","join","kinds","known","locals","loops","made_anew","many_loops","message","methods","module","modules","named","needs_of","number","occurs","output","owed","own","own_path","params","path","pop","publics","read","reader","regions","resolved","result","scopes","self_kind","self_type","setdefault","shallow","sigs","single","split","spot","trait","trait_args","traits","types_told","typex","unify","unknown","update","value_path","variants","world"]:P0 V6).Y4 EA
def pD(x:u0):I1:=attrs.K4 (· ==x)&&!(Y1 (vc x) 0)
section
variable(g:Nat->Option PV)(cl:Nat->Nat)
def NQ(L:z5)(x:u0):C:=
 bif A5 x then(bif n7 L x then .F0 (vc x)else bif E7 L x then(match g (vc x)with|E0 p=> .v0 p|A2=> .M2)else .M2)else .M2
def bO:Ef->C
 |.H0=> .v0 .H0
 |.O3 b=> .v0 (.O3 b)
 |.j0 i=> .v0 (.j0 i)
 |.Z0 s=>bif Y1 (vc s) 0 then .M2 else .v0 (.Z0 (vc s))
 |_=> .M2
def R8(f:C1->C):P0 C1->C
 |[]=> .B0
 |.Starred ..::_=> .M2
 |e::r=> .A0 (f e) (R8 f r)
def JY(f:C1->C):P0 (Q1 C1)->P0 C1->C
 |[],[]=> .B0
 |E0 k::ks,v::vs=> .A0 (f k) (.A0 (f v) (JY f ks vs))
 |_,_=> .M2
def x9(L:z5)(nm:u0)(x:u0):I1:=x==nm&&E7 L x
def Q8:C1->I1
 |.Starred ..=>R0
 |_=>I0
def yB(L1:P0 C1):I1:=Y6 L1.M7 12&&lf Q8
def cI1(f:C1->C)(L:z5)(e:C1)(x:u0)(L1:P0 C1):C:=match L1 with
 |[]=> .T4 (f e)
 |a::r=>match r with
  |[]=>bif x9 L "enumerate" x&&yB [a]then .wX (f a)else bif x9 L "range" x&&yB [a]then .aa (f a)else .T4 (f e)
  |b::r'=>match r' with
   |[]=>bif x9 L "zip" x&&yB [a,b]then .pK (f a) (f b)else .T4 (f e)
   |_::_=> .T4 (f e)
def cI2(f:C1->C)(L:z5)(e fn:C1)(L1:P0 C1):C:=match fn with
 |.u3 x _=>cI1 f L e x L1
 |_=> .T4 (f e)
def cI(f:C1->C)(L:z5)(e:C1):C:=match e with
 |.C7 fn L1 QA _=>match QA with
  |[]=>cI2 f L e fn L1
  |_::_=> .T4 (f e)
 |.Set _ _ _=> .M2
 |_=> .T4 (f e)
theorem aq{L:z5}{nm x:u0}{b:I1}(h:(x9 L nm x&&b)=I0):x=nm/\E7 L nm=I0/\b=I0:=by
 unfold x9 at h;rw[N5,N5]at h;have e:=dD h.1.1;exact⟨e,e▸h.1.2,h.2⟩
inductive CI(f:C1->C)(L:z5):C1->C->Prop
 |M2 e:CI f L e .M2
 |W5 e:CI f L e (.T4 (f e))
 |v8 a b p q(h:E7 L "zip"=I0)(h2:yB [a,b]=I0):CI f L (.C7 (.u3 "zip" p) [a,b] [] q) (.pK (f a) (f b))
 |OE a p q(h:E7 L "enumerate"=I0)(h2:yB [a]=I0):CI f L (.C7 (.u3 "enumerate" p) [a] [] q) (.wX (f a))
 |qm a p q(h:E7 L "range"=I0)(h2:yB [a]=I0):CI f L (.C7 (.u3 "range" p) [a] [] q) (.aa (f a))
theorem JC0(f:C1->C)(L:z5){x:u0}{p q:T3}{L1:P0 C1}:CI f L (.C7 (.u3 x p) L1 [] q) (cI1 f L (.C7 (.u3 x p) L1 [] q) x L1):=by
 cases L1 using i5 with
 |B0=>exact .W5 _
 |A0 a r=>
  cases r using i5 with
  |B0=>
   show CI f L _ (bif x9 L "enumerate" x&&yB [a]then _ else bif x9 L "range" x&&yB [a]then _ else _);cases h:x9 L "enumerate" x&&yB [a]with
   |I0=>
    obtain⟨O,h1,h2⟩:=aq h;exact .OE _ _ _ h1 h2
   |R0=>
    cases h:x9 L "range" x&&yB [a]with
    |I0=>
     obtain⟨O,h1,h2⟩:=aq h;exact .qm _ _ _ h1 h2
    |R0=>exact .W5 _
  |A0 b r=>
   cases r using i5 with
   |B0=>
    show CI f L _ (bif x9 L "zip" x&&yB [a,b]then _ else _);cases h:x9 L "zip" x&&yB [a,b]with
    |I0=>
     obtain⟨O,h1,h2⟩:=aq h;exact .v8 _ _ _ _ h1 h2
    |R0=>exact .W5 _
   |A0=>exact .W5 _
theorem KC0(f:C1->C)(L:z5){fn:C1}{q:T3}{L1:P0 C1}:CI f L (.C7 fn L1 [] q) (cI2 f L (.C7 fn L1 [] q) fn L1):=by
 cases fn using j9 with
 |u3 x p=>exact JC0 f L
 |_=>exact .W5 _
theorem G20(f:C1->C)(L:z5)(e:C1):CI f L e (cI f L e):=by
 cases e using j9 with
 |C7 fn L1 QA q=>
  cases QA using i5 with
  |B0=>exact KC0 f L
  |A0=>exact .W5 _
 |Set=>exact .M2 _
 |_=>exact .W5 _
def JG(x:u0):Mt:=
 bif x=="append" then .VI else bif x=="pop" then .jK else bif x=="extend" then .pN else bif x=="get" then .o9 else bif x=="setdefault" then .LU
 else bif x=="update" then .JF else bif x=="join" then .sP else bif x=="split" then .nR else .K5
def bq:jE->Q1 gG
 |.Eq=>E0 .eq|.Bz=>E0 .ne|.In=>E0 .f8|.Cz=>E0 .rI|.Gt=>E0 .gt|.Lt=>E0 .lt|.Yg=>E0 .ge|_=>A2
def bM(e:C1):I1:=match e with
 |.H8 c _ _=>match c with|.H0=>I0|_=>R0
 |_=>R0
def Dz(e:C1):I1:=match e with
 |.Set _ _ _=>I0
 |_=>R0
def fq(f:C1->C)(l:C1)(op:jE)(r:C1):C:=bif Dz r then .M2 else match bq op with|E0 o=> .S1 o (f l) (f r)|A2=> .M2
def Nb(f:C1->C)(l:C1)(op:jE)(r:C1):C:=match op with
 |.Is=>bif bM r then .S1 .iG (f l) (.v0 .H0)else .M2
 |.tm=>bif bM r then .S1 .rE (f l) (.v0 .H0)else .M2
 |_=>fq f l op r
inductive EN:C1->I1->Prop
 |no e:EN e R0
 |F6 j p:EN (.H8 .H0 j p) I0
theorem gq(e:C1):EN e (bM e):=by
 cases e using j9 with
 |H8 c=>cases c<;>first|exact .F6 _ _|exact .no _
 |_=>exact .no _
theorem LC0{r:C1}(h:bM r=I0):∃j p,r=.H8 .H0 j p:=by
 have q:=gq r;rw[h]at q;cases q;exact⟨_,_,O⟩
def Rh:C_->Q1 nK
 |.wU=>E0 .n6|.FG=>E0 .w0|.tP=>E0 .La|_=>A2
def dI(f:C1->C)(op:rB):P0 C1->C
 |[]=> .M2
 |[e]=>f e
 |e::r=>match op with|.MM=> .D8 (f e) (dI f op r)|.Or=> .or (f e) (dI f op r)
def dH(es:P0 C1):I1:=Y6 Yn 100
def KY(ks:P0 (Q1 C1))(vs:P0 C1):I1:=Y1 Zn R7&&Y6 Zn 16&&ks.dA (·.AM)
def jB{α:Type}(l:P0 α):I1:=match l with
 |[]=>I0
 |_::_=>R0
def cO{α:Type}(o:Q1 α):I1:=match o with
 |A2=>I0
 |E0 _=>R0
theorem cM{α:Type}{l:P0 α}(h:jB l=I0):l=[]:=by cases l using i5<;>first|rfl|contradiction
theorem Ob{α:Type}{o:Q1 α}(h:cO o=I0):o=A2:=by cases o using i9<;>first|rfl|contradiction
def Sh(a:MK):I1:=jB a.posonlyargs&&(cO a.vararg&&(jB a.kwonlyargs&&(jB a.U90&&(cO a.kwarg&&jB a.PK))))
theorem H20{a:MK}(h:Sh a=I0):a=⟨[],w00,A2,[],[],A2,[]⟩:=by
 unfold Sh at h;simp only[N5]at h;obtain⟨h1,h2,h3,h4,h5,h6⟩:=h;obtain⟨p,as,v,k,d,w,f⟩:=a;rw[show p=[]from cM h1,show v=_ from Ob h2,show k=[]from cM h3,show d=[]from cM h4,show w=_ from Ob h5,show f=[]from cM h6]
def jq(l:P0 GS):Q1 (GS×GS×GS):=match l with
 |[]=>A2
 |x::r=>match r with
  |[]=>A2
  |y::r=>match r with
   |[]=>A2
   |z::r=>bif jB r then E0 (x,y,z)else A2
theorem MC0{l:P0 GS}{x y z:GS}(h:jq l=E0 (x,y,z)):l=[x,y,z]:=by
 cases l using i5 with
 |B0=>contradiction
 |A0 a l=>
  cases l using i5 with
  |B0=>contradiction
  |A0 b l=>
   cases l using i5 with
   |B0=>contradiction
   |A0 c l=>
    have h:(bif jB l then E0 (a,b,c)else A2)=E0 (x,y,z):=h;obtain⟨q,h⟩:=UC h;cases h;rw[cM q]
def V7(e:C1):Q1 u0:=match e with
 |.u3 x _=>E0 x
 |_=>A2
inductive NS:C1->Q1 u0->Prop
 |no e:NS e A2
 |F6 x p:NS (.u3 x p) (E0 x)
theorem Th(e:C1):NS e (V7 e):=by cases e using j9<;>first|exact .F6 _ _|exact .no _
theorem LY{e:C1}{x:u0}(h:V7 e=E0 x):∃p,e=.u3 x p:=by
 have q:=Th e;rw[h]at q;cases q;exact⟨_,O⟩
def kq(f:C1->C)(L:z5)(x:u0)(p:T3)(a:C1):C:=
 bif x9 L "len" x then .b1 .Z5 (f a)else bif x9 L "sorted" x then .b1 .Ym (f a)else bif x9 L "str" x then .b1 .Z0 (f a)
 else bif x9 L "tuple" x then .mk .Q0 (cI f L a)else bif x9 L "list" x then .mk .M1 (cI f L a)else bif x9 L "dict" x then .mk .H2 (cI f L a)
 else .K2 (f (.u3 x p)) (R8 f [a])
def lq(f:C1->C)(L:z5)(x:u0)(p:T3)(a b:C1):C:=match V7 b with
 |E0 y=>bif x9 L "isinstance" x then(bif x9 L "tuple" y then .b1 .vg (f a)else .M2)else .K2 (f (.u3 x p)) (R8 f [a,b])
 |A2=> .K2 (f (.u3 x p)) (R8 f [a,b])
def Uh(f:C1->C)(L:z5)(x:u0)(p:T3)(L1:P0 C1):C:=match L1 with
 |[]=> .K2 (f (.u3 x p)) (R8 f L1)
 |a::r=>match r with
  |[]=>kq f L x p a
  |b::r'=>match r' with
   |[]=>lq f L x p a b
   |_::_=> .K2 (f (.u3 x p)) (R8 f L1)
def s_(e:C1):Q1 B2:=match e with
 |.H8 c _ _=>match c with|.j0 i=>E0 i|_=>A2
 |_=>A2
inductive mq:C1->Q1 B2->Prop
 |no e:mq e A2
 |F6 i j p:mq (.H8 (.j0 i) j p) (E0 i)
theorem I20(e:C1):mq e (s_ e):=by
 cases e using j9 with
 |H8 c=>cases c<;>first|exact .F6 _ _ _|exact .no _
 |_=>exact .no _
def Ff(n:B2)(e:C1):I1:=match s_ e with
 |E0 i=>i==n
 |A2=>R0
theorem J20{n:B2}{e:C1}(h:Ff n e=I0):∃j p,e=.H8 (.j0 n) j p:=by
 have q:=I20 e;unfold Ff at h;generalize s_ e=o at q h;cases q with
 |no=>contradiction
 |F6 i j p=>exact⟨j,p,by rw[show i=n from dD h]⟩
def nq(b:C1):Q1 (C1×C1):=match b with
 |.BD o i _=>E0 (o,i)
 |_=>A2
inductive oq:C1->Q1 (C1×C1)->Prop
 |no e:oq e A2
 |F6 o i p:oq (.BD o i p) (E0 (o,i))
theorem NC0(e:C1):oq e (nq e):=by cases e using j9<;>first|exact .F6 _ _ _|exact .no _
def Vh(b:C1):Q1 u0:=match nq b with
 |E0 x=>bif Ff 2 x.2 then V7 x.1 else A2
 |A2=>A2
theorem OC0{b:C1}{x:u0}(h:Vh b=E0 x):∃p1 j p2 p3,b=.BD (.u3 x p1) (.H8 (.j0 2) j p2) p3:=by
 have q:=NC0 b;unfold Vh at h;generalize nq b=r at q h;cases q with
 |no=>contradiction
 |F6 o i p3=>
  have h:(bif Ff 2 i then V7 o else A2)=E0 x:=h;obtain⟨q,h⟩:=UC h;obtain⟨p1,O⟩:=LY h;obtain⟨j,p2,O⟩:=J20 q;exact⟨p1,j,p2,p3,O⟩
def K20(k:oV0):I1:=match k with
 |.sF=>I0
 |_=>R0
theorem PC0{k:oV0}(h:K20 k=I0):k=.sF:=by cases k<;>first|rfl|contradiction
def IV(L:z5)(f:C1->C)(e:C1):C:=match V7 e with
 |E0 x=>bif A5 x&&z6 L x then .F0 (vc x)else .M2
 |A2=> .M2
inductive Pb(L:z5):C1->C->Prop
 |M2 e:Pb L e .M2
 |F0 x p(h1:A5 x=I0)(h2:z6 L x=I0):Pb L (.u3 x p) (.F0 (vc x))
theorem QC0(L:z5)(f:C1->C)(e:C1):Pb L e (IV L f e):=by
 have q:=Th e;unfold IV;generalize V7 e=o at q;cases q with
 |no=>exact .M2 _
 |F6 x p=>
  show Pb L _ (bif A5 x&&z6 L x then .F0 (vc x)else .M2);cases h:A5 x&&z6 L x with
  |R0=>exact .M2 _
  |I0=>
   rw[N5]at h;exact .F0 _ _ h.1 h.2
def cT(L:z5)(f:C1->C):C1->C
 |.u3 x _=>bif A5 x&&z6 L x then .F0 (vc x)else .M2
 |.CD o a _=>bif pD a then .Z1 (vc a) (f o)else .M2
 |.BD o i _=>match i with|.pW ..=> .M2|i=> .w0 (f o) (f i)
 |.U9 ts _ _=> .Q0 (R8 (IV L f) ts)
 |_=> .M2
def Wh(l m:P0 u0):I1:=match l,m with
 |[],[]=>I0
 |x::l,y::m=>x==y&&Wh l m
 |_,_=>R0
def bn(e:C1):Q1 (P0 C1):=match e with
 |.U9 ts _ _=>E0 ts
 |_=>A2
inductive qq:C1->Q1 (P0 C1)->Prop
 |no e:qq e A2
 |F6 ts j p:qq (.U9 ts j p) (E0 ts)
theorem RC0(e:C1):qq e (bn e):=by cases e using j9<;>first|exact .F6 _ _ _|exact .no _
theorem SC0{e:C1}{ts:P0 C1}(h:bn e=E0 ts):∃j p,e=.U9 ts j p:=by
 have q:=RC0 e;rw[h]at q;cases q;exact⟨_,_,O⟩
def cF(e:C1):P0 u0:=match V7 e with
 |E0 x=>[x]
 |A2=>match bn e with
  |E0 ts=>XA V7
  |A2=>[]
def OQ(L:z5)(sc:cA)(Q4:C1):I1:=
 (match Xf with|.sF=>I0|_=>R0)&&
 ((V7 Q4).AM||(bn Q4).AM)&&
 Wh ((w5.Xm λ x=>x.2==.G7).Y4 (·.1)) (".0"::cF Q4)&&
 w5.dA λ x=>!(x.1==("__class__":u0))&&match x.2 with
  |.G7=>n7 w5 x.1&&!(E7 w5 x.1)&&(XC x.1==E0 .G7)
  |.j7=>G9 x.1==E0 .l6&&XC x.1==E0 .j7
  |.SL=>XC x.1==E0 .SL
  |_=>R0
def sq(x y z:GS)(n:u0)(sc:cA):I1:=n==iK&&(A5 n&&(!(Ba==iK)&&(!(iK==bX)&&(!(Ba==bX)&&(K20 Xf&&(!sc.Id&&(!sc.Md&&
  (w5.dA (λ k=>k.2==.G7)&&(XC Ba==E0 .G7&&(XC iK==E0 .G7&&XC bX==E0 .G7))))))))))
def XS(a:MK)(b:C1)(sc:cA):I1:=Sh a&&match jq w00 with
 |A2=>R0
 |E0 q=>match Vh b with
  |A2=>R0
  |E0 n=>sq q.1 q.2.1 q.2.2 n sc
def MY(L:z5)(a:MK)(P4:P0 P5)(sc:cA):I1:=Sh a&&(a.lf (λ x=>M90.fE)&&(P_ P4).fE&&w5.dA (λ k=>!(k.2==.j7)||(G9 k.1==E0 .l6)))
def VX(f:C1->C):Q1 C1->C
 |A2=> .v0 .H0
 |E0 e=>f e
def cUn(f:C1->C)(op:fD)(x:C1):C:=match op with
 |.dX=> .hH (f x)
 |.uP=>match s_ x with|E0 i=> .v0 (.j0 (-i))|A2=> .M2
 |_=> .M2
def vq(op:C_)(a b:C):C:=match Rh op with|E0 o=> .L6 o a b|A2=> .M2
def L20(f:C1->C)(l:C1)(nI:P0 jE)(rs:P0 C1):C:=match nI with
 |[]=> .M2
 |op::o=>match o with
  |[]=>match rs with
   |[]=> .M2
   |r::r'=>match r' with
    |[]=>Nb f l op r
    |_::_=> .M2
  |_::_=> .M2
def xq(f:C1->C)(o:C1)(x:u0)(ap:T3)(L1:P0 C1)(p:T3):C:=bif yB L1&&Y1 xl Ea&&pD x then .F4 (JG x) (vc x) (f o) (R8 f L1)else .M2
def M20(f:C1->C)(L:z5)(fn:C1)(L1:P0 C1)(p:T3):C:=match fn with
 |.CD o x ap=>xq f o x ap L1 p
 |.u3 x q=>bif yB L1 then Uh f L x q L1 else .M2
 |_=> .M2
def yq(e:C1):Q1 C1:=match e with
 |.fD op x _=>match op with|.uP=>E0 x|_=>A2
 |_=>A2
inductive Ar:C1->Q1 C1->Prop
 |no e:Ar e A2
 |F6 x p:Ar (.fD .uP x p) (E0 x)
theorem TC0(e:C1):Ar e (yq e):=by
 cases e using j9 with
 |fD op=>cases op<;>first|exact .F6 _ _|exact .no _
 |_=>exact .no _
def Rb(e:C1):I1:=match yq e with
 |E0 x=>Ff 1 x
 |A2=>R0
theorem UC0{e:C1}(h:Rb e=I0):∃j p q,e=.fD .uP (.H8 (.j0 1) j p) q:=by
 symm;have q:=TC0 e;unfold Rb at h;generalize yq e=r at q h;cases q with
 |no=>contradiction
 |F6 x p=>
  obtain⟨j,q,O⟩:=J20 h;ext;exact⟨j,q,p,O⟩
def VC0(f:C1->C)(o:C1)(lo hi:Q1 C1)(e:C1):C:=match lo with
 |A2=>match hi with
  |A2=>bif Rb e then .BQ (f o)else .M2
  |E0 _=> .M2
 |E0 _=> .M2
def N20(f:C1->C)(o i:C1):C:=match i with
 |.pW lo hi st _=>match st with
  |A2=> .iE (f o) (VX f lo) (VX f hi)
  |E0 e=>VC0 f o lo hi e
 |_=> .w0 (f o) (f i)
def Xh(gs:P0 vk):Q1 (C1×C1×P0 C1):=match gs with
 |[]=>A2
 |c::r=>match r with
  |[]=>match c with|⟨Q4,it,A7,a⟩=>bif a==0 then E0 (Q4,it,A7)else A2
  |_::_=>A2
theorem O20{gs:P0 vk}{Q4 it:C1}{A7:P0 C1}(h:Xh gs=E0 (Q4,it,A7)):gs=[⟨Q4,it,A7,0⟩]:=by
 cases gs using i5 with
 |B0=>contradiction
 |A0 c r=>
  cases r using i5 with
  |A0=>contradiction
  |B0=>
   obtain⟨t,i,f,a⟩:=c;have h:(bif a==0 then E0 (t,i,f)else A2)=E0 (Q4,it,A7):=h;obtain⟨q,h⟩:=UC h;cases h;rw[show a=0 from dD q]
def JV(E:z5->C1->C)(L:z5)(Y5:C1)(gs:P0 vk)(sc:cA):C:=match Xh gs with
 |E0 x=>bif OQ L sc x.1 then .J7 (E w5 Y5) (cT w5 (E w5) x.1) (R8 (E w5) x.2.2) (cI (E L) L x.2.1)else .M2
 |A2=> .M2
def cE:C0->z5->C1->C
 |0,_,_=> .M2
 |n+1,L,e=>match e with
  |.H8 c _ _=>bO c
  |.u3 x _=>NQ g L x
  |.rB op vs _=>dI (cE n L) op vs
  |.Q_ l op r _=>vq op (cE n L l) (cE n L r)
  |.fD op x _=>cUn (cE n L) op x
  |.aU t a b _=> .K7 (cE n L t) (cE n L a) (cE n L b)
  |.U9 es _ _=>bif dH es then .Q0 (R8 (cE n L) es)else .M2
  |.P0 es _=>bif dH es then .M1 (R8 (cE n L) es)else .M2
  |.cn ks vs _=>bif KY ks vs then .H2 (JY (cE n L) ks vs)else .M2
  |.QB Y5 gs sc _=>JV (cE n) L Y5 gs sc
  |.aP l nI rs _=>L20 (cE n L) l nI rs
  |.C7 fn L1 QA p=>match QA with
   |[]=>M20 (cE n L) L fn L1 p
   |_::_=> .M2
  |.CD o x _=>bif pD x then .Z1 (vc x) (cE n L o)else .M2
  |.BD o i _=>N20 (cE n L) o i
  |.fy a b sc _=>bif XS a b sc then .qA (cl 0)else .M2
  |_=> .M2
section
variable(k:Nat)(L:Kinds)
inductive CE:C1->C->Prop
 |M2 e:CE e .M2
 |const c j p:CE (.H8 c j p) (bO c)
 |W2 x p:CE (.u3 x p) (NQ g L x)
 |P20 op e p:CE (.rB op [e] p) (cE g cl k L e)
 |Q20 op e1 e2 r p:CE (.rB op (e1::e2::r) p) (dI (cE g cl k L) op (e1::e2::r))
 |L6 l op r p o(h:Rh op=E0 o):CE (.Q_ l op r p) (.L6 o (cE g cl k L l) (cE g cl k L r))
 |hH x p:CE (.fD .dX x p) (.hH (cE g cl k L x))
 |R20 i j q p:CE (.fD .uP (.H8 (.j0 i) j q) p) (.v0 (.j0 (-i)))
 |K7 t a b p:CE (.aU t a b p) (.K7 (cE g cl k L t) (cE g cl k L a) (cE g cl k L b))
 |Q0 es j p(h:dH es=I0):CE (.U9 es j p) (.Q0 (R8 (cE g cl k L) es))
 |M1 es p(h:dH es=I0):CE (.P0 es p) (.M1 (R8 (cE g cl k L) es))
 |H2 ks vs p(h:KY ks vs=I0):CE (.cn ks vs p) (.H2 (JY (cE g cl k L) ks vs))
 |J7 Y5 Q4 it A7 sc p(h:OQ L sc Q4=I0):CE (.QB Y5 [⟨Q4,it,A7,0⟩] sc p) (.J7 (cE g cl k w5 Y5) (cT w5 (cE g cl k w5) Q4) (R8 (cE g cl k w5) A7) (cI (cE g cl k L) L it))
 |S1 l op r p:CE (.aP l [op] [r] p) (Nb (cE g cl k L) l op r)
 |Sb o x ap L1 p(h1:yB L1=I0)(h2:Y1 xl Ea=I0)(h3:pD x=I0):CE (.C7 (.CD o x ap) L1 [] p) (.F4 (JG x) (vc x) (cE g cl k L o) (R8 (cE g cl k L) L1))
 |K2 x p L1 q(h:yB L1=I0):CE (.C7 (.u3 x p) L1 [] q) (Uh (cE g cl k L) L x p L1)
 |Z1 o x p(h:pD x=I0):CE (.CD o x p) (.Z1 (vc x) (cE g cl k L o))
 |iE o lo hi q p:CE (.BD o (.pW lo hi A2 q) p) (.iE (cE g cl k L o) (VX (cE g cl k L) lo) (VX (cE g cl k L) hi))
 |BQ o j p1 p2 p3 p4:CE (.BD o (.pW A2 A2 (E0 (.fD .uP (.H8 (.j0 1) j p1) p2)) p3) p4) (.BQ (cE g cl k L o))
 |w0 o i p:CE (.BD o i p) (.w0 (cE g cl k L o) (cE g cl k L i))
 |qA a b sc p(h:XS a b sc=I0):CE (.fy a b sc p) (.qA (cl 0))
variable{k L}
theorem WC0{op:fD}{x:C1}{p:T3}:CE g cl k L (.fD op x p) (cUn (cE g cl k L) op x):=by
 cases op using fD.n8 with
 |dX=>exact .hH _ _
 |uP=>
  show CE g cl k L _ (match s_ x with|E0 i=> .v0 (.j0 (-i))|A2=> .M2);have q:=I20 x;generalize s_ x=o at q;cases q with
  |no=>exact .M2 _
  |F6=>exact .R20 _ _ _ _
 |_=>exact .M2 _
theorem XC0{l r:C1}{op:C_}{p:T3}:CE g cl k L (.Q_ l op r p) (vq op (cE g cl k L l) (cE g cl k L r)):=by
 unfold vq;cases h:Rh op with
 |H0=>exact .M2 _
 |E0 o=>exact .L6 _ _ _ _ _ h
theorem YC0{Y5:C1}{gs:P0 vk}{sc:cA}{p:T3}:CE g cl k L (.QB Y5 gs sc p) (JV (cE g cl k) L Y5 gs sc):=by
 unfold JV;cases h:Xh gs with
 |H0=>exact .M2 _
 |E0 x=>
  obtain⟨Q4,it,A7⟩:=x;rw[O20 h];show CE g cl k L _ (bif OQ L sc Q4 then _ else _);cases h2:OQ L sc Q4 with
  |R0=>exact .M2 _
  |I0=>exact .J7 _ _ _ _ _ _ h2
theorem ZC0{l:C1}{nI:P0 jE}{rs:P0 C1}{p:T3}:CE g cl k L (.aP l nI rs p) (L20 (cE g cl k L) l nI rs):=by
 cases nI using i5 with
 |B0=>exact .M2 _
 |A0 op o=>
  cases o using i5 with
  |A0=>exact .M2 _
  |B0=>
   cases rs using i5 with
   |B0=>exact .M2 _
   |A0 r r'=>
    cases r' using i5 with
    |A0=>exact .M2 _
    |B0=>exact .S1 _ _ _ _
theorem aC0{fn:C1}{L1:P0 C1}{p:T3}:CE g cl k L (.C7 fn L1 [] p) (M20 (cE g cl k L) L fn L1 p):=by
 cases fn using j9 with
 |CD o x ap=>
  show CE g cl k L _ (xq _ o x ap L1 p);unfold xq;cases h:yB L1&&Y1 xl Ea&&pD x with
  |R0=>exact .M2 _
  |I0=>
   rw[N5,N5]at h;exact .Sb _ _ _ _ _ h.1.1 h.1.2 h.2
 |u3 x q=>
  show CE g cl k L _ (bif yB L1 then Uh _ L x q L1 else .M2);cases h:yB L1 with
  |R0=>exact .M2 _
  |I0=>exact .K2 _ _ _ _ h
 |_=>exact .M2 _
theorem bC0{o i:C1}{p:T3}:CE g cl k L (.BD o i p) (N20 (cE g cl k L) o i):=by
 cases i using j9 with
 |pW lo hi st q=>
  cases st using i9 with
  |H0=>exact .iE _ _ _ _ _
  |E0 e=>
   cases lo using i9 with
   |E0=>exact .M2 _
   |H0=>
    cases hi using i9 with
    |E0=>exact .M2 _
    |H0=>
     show CE g cl k L _ (bif Rb e then _ else _);cases h:Rb e with
     |R0=>exact .M2 _
     |I0=>
      obtain⟨j,p1,p2,O⟩:=UC0 h;exact .BQ _ _ _ _ _ _
 |_=>exact .w0 _ _ _
theorem cC0{e:C1}:CE g cl k L e (cE g cl (k+1) L e):=by
 cases e using j9 with
 |H8=>exact .const _ _ _
 |u3=>exact .W2 _ _
 |rB op vs p=>
  cases vs using i5 with
  |B0=>exact .M2 _
  |A0 e r=>
   cases r using i5 with
   |B0=>exact .P20 _ _ _
   |A0=>exact .Q20 _ _ _ _ _
 |Q_=>exact XC0 g cl
 |fD=>exact WC0 g cl
 |aU=>exact .K7 _ _ _ _
 |U9 es j p=>
  show CE g cl k L _ (bif dH es then _ else _);cases h:dH es with
  |R0=>exact .M2 _
  |I0=>exact .Q0 _ _ _ h
 |P0 es p=>
  show CE g cl k L _ (bif dH es then _ else _);cases h:dH es with
  |R0=>exact .M2 _
  |I0=>exact .M1 _ _ h
 |cn ks vs p=>
  show CE g cl k L _ (bif KY ks vs then _ else _);cases h:KY ks vs with
  |R0=>exact .M2 _
  |I0=>exact .H2 _ _ _ h
 |QB=>exact YC0 g cl
 |aP=>exact ZC0 g cl
 |C7 fn L1 QA p=>
  cases QA using i5 with
  |B0=>exact aC0 g cl
  |A0=>exact .M2 _
 |CD o x p=>
  show CE g cl k L _ (bif pD x then _ else _);cases h:pD x with
  |R0=>exact .M2 _
  |I0=>exact .Z1 _ _ _ h
 |BD=>exact bC0 g cl
 |fy a b sc p=>
  show CE g cl k L _ (bif XS a b sc then _ else _);cases h:XS a b sc with
  |R0=>exact .M2 _
  |I0=>exact .qA _ _ _ _ h
 |_=>exact .M2 _
end
variable(hr:ExceptHandler->Option (Nat×Nat×Nat×Nat×Nat))
def S20(p:PV):Q1 C0:=match p with
 |.Y0 a=>E0 a
 |_=>A2
theorem dC0{p:PV}{a:C0}(h:S20 p=E0 a):p=.Y0 a:=by
 cases p using Q3 with
 |Y0 b=>exact H6 wA0 (I3 h)
 |_=>contradiction
theorem T20{t:C}(h:Gq t=I0):∃ts,t=.Q0 ts:=by
 cases t using C.n8 with
 |Q0 ts=>exact⟨_,O⟩
 |_=>contradiction
def ZH(g:C0->Q1 PV)(L:z5)(e:C1):Q1 C0:=(V7 e).S6 λ x=>bif A5 x&&E7 L x then(g (vc x)).S6 S20 else A2
def dO(g:C0->Q1 PV)(L:z5):C1->C
 |.u3 x _=>NQ g L x
 |.H8 c _ _=>bO c
 |_=> .M2
def Yh:Ef->Q1 PV
 |.H0=>E0 .H0
 |.O3 b=>E0 (.O3 b)
 |.j0 i=>E0 (.j0 i)
 |.Z0 s=>bif Y1 (vc s) 0 then A2 else E0 (.Z0 (vc s))
 |_=>A2
theorem eC0{c:Ef}{v:PV}(h:Yh c=E0 v):bO c=.v0 v:=by
 cases c with
 |Z0 s=>
  have h:(bif Y1 (vc s) 0 then A2 else E0 (.Z0 (vc s)))=E0 v:=h;show(bif Y1 (vc s) 0 then j00 else .v0 (.Z0 (vc s)))=_;cases q:Y1 (vc s) 0 with
  |I0=>rw[q]at h;contradiction
  |R0=>rw[q]at h;obtain O:=I3 h;rfl
 |H0|O3|j0=>obtain O:=I3 h;rfl
 |_=>contradiction
section
variable(g:Nat->Option PV)(L:Kinds)(a:Nat)(R:S)
def cHv(e:C1):S:=match e with
 |.H8 c _ _=>match Yh c with|E0 v=> .oU a v R|A2=> .M2
 |.P0 es _=>bif dH es then .wg a (R8 (dO g L) es) R else .M2
 |_=> .M2
def Br(st:P5):S:=match st with
 |.WK v _=>match v with|E0 e=>cHv g L a R e|A2=> .M2
 |_=> .M2
def Cr(e:C1):Q1 (C1×u0):=match e with
 |.CD o x _=>E0 (o,x)
 |_=>A2
inductive Dr:C1->Q1 (C1×u0)->Prop
 |no e:Dr e A2
 |F6 o x p:Dr (.CD o x p) (E0 (o,x))
theorem fC0(e:C1):Dr e (Cr e):=by cases e using j9<;>first|exact .F6 _ _ _|exact .no _
def Zh(e:C1):Q1 (u0×u0):=match Cr e with
 |E0 q=>match V7 q.1 with|E0 y=>E0 (y,q.2)|A2=>A2
 |A2=>A2
theorem gC0{e:C1}{y x:u0}(h:Zh e=E0 (y,x)):∃p q,e=.CD (.u3 y p) x q:=by
 symm;have q:=fC0 e;unfold Zh at h;generalize Cr e=r at q h;cases q with
 |no=>contradiction
 |F6 o z q=>
  have h:(match V7 o with|E0 y=>E0 (y,z)|A2=>A2)=E0 (y,x):=h;cases ho:V7 o with
  |H0=>
   ext;rw[ho]at h;contradiction
  |E0 y'=>
   ext;rw[ho]at h;cases h;obtain⟨p,O⟩:=LY ho;exact⟨p,q,O⟩
def ah(x x' q8 y:u0):I1:=x==x'&&(A5 x&&(A5 y&&(G9 x==E0 .G7&&(n7 L y&&(!(x==y)&&q8==("message":u0))))))
def Er(x:u0)(d m y:C1):S:=match Zh m with
 |A2=> .M2
 |E0 q=>match V7 y with
  |A2=> .M2
  |E0 yn=>match ZH g L d with
   |A2=> .M2
   |E0 d'=>bif ah L x q.1 q.2 yn then .xg a (vc x) d' (vc q.2) (vc yn) R else .M2
def cHy(x:u0)(e:C1):S:=match e with
 |.C7 d L1 QA _=>match QA with
  |[]=>match L1 with
   |[]=> .M2
   |m::r=>match r with
    |[]=> .M2
    |y::r'=>match r' with
     |[]=>Er g L a R x d m y
     |_::_=> .M2
  |_::_=> .M2
 |_=> .M2
def Hr(x:u0)(st:P5):S:=match st with
 |.pR e c _=>match e with
  |E0 e'=>match c with
   |E0 c'=>bif bM c' then cHy g L a R x e' else .M2
   |A2=> .M2
  |A2=> .M2
 |_=> .M2
def cH1(ty:Q1 C1)(nm:Q1 u0)(P4:P0 P5):S:=match ty with
 |A2=> .M2
 |E0 t=>match ZH g L t with
  |A2=> .M2
  |E0 a=>match P4 with
   |[]=> .M2
   |st::r=>match r with
    |_::_=> .M2
    |[]=>match nm with
     |A2=>Br g L a R st
     |E0 x=>Hr g L a R x st
end
def cH(g:C0->Q1 PV)(L:z5):P0 xD->S
 |[]=> .B0
 |h::r=>match h with|.xD ty nm P4 _=>cH1 g L (cH g L r) ty nm P4
section
variable{g:Nat->Option PV}{L:Kinds}{a:Nat}{R:S}{t:Expr}{hp:Pos}
inductive CH(g:C0->Q1 PV)(L:z5)(R:S):xD->S->Prop
 |M2 h:CH g L R h .M2
 |U1 t c j cp rp hp a v(h1:ZH g L t=E0 a)(h2:bO c=.v0 v):CH g L R (.xD (E0 t) A2 [.WK (E0 (.H8 c j cp)) rp] hp) (.oU a v R)
 |U20 t es lp rp hp a(h1:ZH g L t=E0 a)(h2:dH es=I0):CH g L R (.xD (E0 t) A2 [.WK (E0 (.P0 es lp)) rp] hp) (.wg a (R8 (dO g L) es) R)
 |Ub t x d xp ap y yp cp j np rp hp a dd(ha:ZH g L t=E0 a)(hd:ZH g L d=E0 dd)(h1:A5 x=I0)(h2:A5 y=I0)(h3:G9 x=E0 .G7)(h4:n7 L y=I0)(h5:x≠y):
   CH g L R (.xD (E0 t) (E0 x) [.pR (E0 (.C7 d [.CD (.u3 x xp) "message" ap,.u3 y yp] [] cp)) (E0 (.H8 .H0 j np)) rp] hp) (.xg a (vc x) dd (vc "message") (vc y) R)
theorem iC0{st:P5}(ha:ZH g L t=E0 a):CH g L R (.xD (E0 t) A2 [st] hp) (Br g L a R st):=by
 cases st using P5.n8 with
 |WK v p=>
  cases v using i9 with
  |H0=>exact .M2 _
  |E0 e=>
   cases e using j9 with
   |H8 c j q=>
    show CH g L R _ (match Yh c with|E0 v=> .oU a v R|A2=> .M2);cases h:Yh c with
    |H0=>exact .M2 _
    |E0 v=>exact .U1 _ _ _ _ _ _ _ _ ha (eC0 h)
   |P0 es q=>
    show CH g L R _ (bif dH es then _ else _);cases h:dH es with
    |R0=>exact .M2 _
    |I0=>exact .U20 _ _ _ _ _ _ ha h
   |_=>exact .M2 _
 |_=>exact .M2 _
theorem jC0{x:u0}{d m y:C1}{cp np rp:T3}{j:C0}(ha:ZH g L t=E0 a):CH g L R (.xD (E0 t) (E0 x) [.pR (E0 (.C7 d [m,y] [] cp)) (E0 (.H8 .H0 j np)) rp] hp) (Er g L a R x d m y):=by
 unfold Er;cases h1:Zh m with
 |H0=>exact .M2 _
 |E0 q=>
  obtain⟨x',q8⟩:=q;cases h2:V7 y with
  |H0=>exact .M2 _
  |E0 yn=>
   cases h3:ZH g L d with
   |H0=>exact .M2 _
   |E0 d'=>
    show CH g L R _ (bif ah L x x' q8 yn then _ else _);cases h4:ah L x x' q8 yn with
    |R0=>exact .M2 _
    |I0=>
     obtain⟨p,q,O⟩:=gC0 h1;obtain⟨yp,O⟩:=LY h2;unfold ah at h4;simp only[N5]at h4;obtain⟨e1,e2,e3,e4,e5,e6,e7⟩:=h4;obtain O:=dD e1;obtain O:=dD e7;exact .Ub _ _ _ _ _ _ _ _ _ _ _ _ _ _ ha h3 e2 e3 (dD e4) e5 (λ q=>by rw[q,MW]at e6;contradiction)
theorem kC0{x:u0}{e:C1}{np rp:T3}{j:C0}(ha:ZH g L t=E0 a):CH g L R (.xD (E0 t) (E0 x) [.pR (E0 e) (E0 (.H8 .H0 j np)) rp] hp) (cHy g L a R x e):=by
 cases e using j9 with
 |C7 d L1 QA p=>
  cases QA using i5 with
  |A0=>exact .M2 _
  |B0=>
   cases L1 using i5 with
   |B0=>exact .M2 _
   |A0 m r=>
    cases r using i5 with
    |B0=>exact .M2 _
    |A0 y r=>
     cases r using i5 with
     |A0=>exact .M2 _
     |B0=>exact jC0 ha
 |_=>exact .M2 _
theorem lC0{x:u0}{st:P5}(ha:ZH g L t=E0 a):CH g L R (.xD (E0 t) (E0 x) [st] hp) (Hr g L a R x st):=by
 cases st using P5.n8 with
 |pR e c p=>
  cases e using i9 with
  |H0=>exact .M2 _
  |E0 e=>
   cases c using i9 with
   |H0=>exact .M2 _
   |E0 c=>
    show CH g L R _ (bif bM c then _ else _);cases h:bM c with
    |R0=>exact .M2 _
    |I0=>
     obtain⟨j,np,O⟩:=LC0 h;exact kC0 ha
 |_=>exact .M2 _
theorem mC0{h:xD}{r:P0 xD}:CH g L (cH g L r) h (cH g L (h::r)):=by
 obtain⟨ty,nm,P4,hp⟩:=h;cases ty using i9 with
 |H0=>exact .M2 _
 |E0 t=>
  show CH g L (cH g L r) _ (match ZH g L t with
   |A2=> .M2
   |E0 a=>match P4 with
    |[]=> .M2
    |st::r'=>match r' with
     |_::_=> .M2
     |[]=>match nm with
      |A2=>Br g L a (cH g L r) st
      |E0 x=>Hr g L a (cH g L r) x st)
  cases ha:ZH g L t with
  |H0=>exact .M2 _
  |E0 a=>
   cases P4 using i5 with
   |B0=>exact .M2 _
   |A0 st r'=>
    cases r' using i5 with
    |A0=>exact .M2 _
    |B0=>
     cases nm using i9 with
     |H0=>exact iC0 ha
     |E0 x=>exact lC0 ha
end
def dM(t e:C1):I1:=match e with
 |.QB _ _ sc _=>match t with
  |.u3 x _=>!(w5.K4 λ y=>y.1==x&&(y.2==.G7||y.2==.l6))
  |_=>I0
 |.VA0 ..=>R0
 |.GA0 ..=>R0
 |_=>I0
def uK(t e:C1):I1:=match t,e with
 |.U9 _ _ _,.U9 vs _ _=>!(Fn (ut 8))
 |_,_=>I0
inductive Ir:C1->I1->Prop
 |no e:Ir e R0
 |F6 f L1 QA p:Ir (.C7 f L1 QA p) I0
def uW(e:C1):I1:=match e with
 |.C7 ..=>I0
 |_=>R0
theorem V20(e:C1):Ir e (uW e):=by cases e using j9<;>first|exact .F6 _ _ _ _|exact .no _
def W20(st:P5):I1:=match st with
 |.PF ts e _=>match ts with
  |[]=>R0
  |t::r=>jB r&&((V7 t).AM&&uW e)
 |.C1 e _=>uW e
 |_=>R0
def KV(b:P0 P5):I1:=match b with
 |[]=>R0
 |st::r=>jB r&&W20 st
inductive MV:P0 P5->I1->Prop
 |no b:MV b R0
 |V1 x xp f L1 QA cp D2:MV [.PF [.u3 x xp] (.C7 f L1 QA cp) D2] I0
 |B6 f L1 QA cp D2:MV [.C1 (.C7 f L1 QA cp) D2] I0
theorem nC0(st:P5):MV [st] (W20 st):=by
 cases st using P5.n8 with
 |PF ts e p=>
  cases ts using i5 with
  |B0=>exact .no _
  |A0 t r=>
   show MV _ (jB r&&((V7 t).AM&&uW e));cases r using i5 with
   |A0=>exact .no _
   |B0=>
    have q:=Th t;generalize V7 t=o at q;cases q with
    |no=>exact .no _
    |F6 x xp=>
     have q:=V20 e;generalize uW e=o at q;cases q with
     |no=>exact .no _
     |F6=>exact .V1 _ _ _ _ _ _ _
 |C1 e p=>
  show MV _ (uW e);have q:=V20 e;generalize uW e=o at q;cases q with
  |no=>exact .no _
  |F6=>exact .B6 _ _ _ _ _
 |_=>exact .no _
theorem oC0(b:P0 P5):MV b (KV b):=by
 cases b using i5 with
 |B0=>exact .no _
 |A0 st r=>
  cases r using i5 with
  |B0=>exact nC0 st
  |A0=>exact .no _
def mG:P0 u0->I1
 |[]=>I0
 |x::r=>!(r.K4 (· ==x))&&mG r
def Vb(e:C1):I1:=match e with
 |.QB ..=>I0
 |.VA0 ..=>I0
 |.GA0 ..=>I0
 |_=>R0
section
variable(E:Expr->C)(S':List Stmt->S)(L:Kinds)
def X20(ts:P0 C1)(e:C1)(r:P0 P5):S:=match ts with
 |[]=> .M2
 |t::q=>match q with
  |[]=>bif dM t e&&mG (cF t)&&uK t e then .V1 (cT L E t) (E e) (S' r)else .M2
  |_::_=> .M2
def Y20(b:P0 P5)(hs:P0 xD)(el fb r:P0 P5):S:=match hs with
 |[]=> .M2
 |h::q=>bif jB el&&(jB fb&&KV b)then .XO (S' b) (cH g L (h::q)) (S' r)else .M2
def Jr(x:u0)(a:MK)(b:P0 P5)(dl:P0 C1)(rt:Q1 C1)(tp:P0 pV0)(sc:cA)(ts:Q1 cA)(x':u0)(r:P0 P5):S:=
 bif jB dl&&(cO rt&&(jB tp&&(cO ts&&(A5 x&&(z6 L x&&(x==x'&&MY L a b sc))))))then .p_ (vc x) (S' r)else .M2
def cSt(s:P5)(r:P0 P5):S:=match s with
 |.C1 e _=>bif Vb e then .M2 else .B6 (E e) (S' r)
 |.Vn _=>S' r
 |.Ez _=> .cB
 |.vx _=> .bB
 |.WK v _=>match v with|E0 e=> .U1 (E e)|A2=> .U1 (.v0 .H0)
 |.PF ts e _=>X20 E S' L ts e r
 |.If t a b _=> .K3 (E t) (S' a) (S' b) (S' r)
 |.eX t it b el _=>bif jB el&&mG (cF t)then .RE (cT L E t) (cI E L it) (S' b) (S' r)else .M2
 |.Fz t b el _=>bif jB el then .LM (E t) (S' b) (S' r)else .M2
 |.pR e c _=>match e with
  |E0 e=>bif cO c then .kC (E e)else .M2
  |A2=> .M2
 |.ao b hs el fb _=>Y20 g S' L b hs el fb r
 |.JU x a b dl rt tp sc ts x' _=>Jr S' L x a b dl rt tp sc ts x' r
 |_=> .M2
end
def cS:C0->z5->P0 P5->S
 |0,_,_=> .M2
 |n+1,L,st=>match st with
  |[]=> .B0
  |s::r=>cSt g (cE g cl n L) (cS n L) L s r
section
variable(k:Nat)(L:Kinds)
inductive CS:P0 P5->S->Prop
 |M2 st:CS st .M2
 |B0:CS [] .B0
 |B6 e p r(h:Vb e=R0):CS (.C1 e p::r) (.B6 (cE g cl k L e) (cS g cl k L r))
 |pas p r:CS (.Vn p::r) (cS g cl k L r)
 |cB p r:CS (.Ez p::r) .cB
 |bB p r:CS (.vx p::r) .bB
 |U1 e p r:CS (.WK (E0 e) p::r) (.U1 (cE g cl k L e))
 |Z20 p r:CS (.WK A2 p::r) (.U1 (.v0 .H0))
 |V1 t e p r(h1:dM t e=I0)(h2:mG (cF t)=I0)(h3:uK t e=I0):CS (.PF [t] e p::r) (.V1 (cT L (cE g cl k L) t) (cE g cl k L e) (cS g cl k L r))
 |K3 t a b p r:CS (.If t a b p::r) (.K3 (cE g cl k L t) (cS g cl k L a) (cS g cl k L b) (cS g cl k L r))
 |RE t it b p r(h:mG (cF t)=I0):CS (.eX t it b [] p::r) (.RE (cT L (cE g cl k L) t) (cI (cE g cl k L) L it) (cS g cl k L b) (cS g cl k L r))
 |LM t b p r:CS (.Fz t b [] p::r) (.LM (cE g cl k L t) (cS g cl k L b) (cS g cl k L r))
 |Ub e p r:CS (.pR (E0 e) A2 p::r) (.kC (cE g cl k L e))
 |XO b h hs p r(hb:KV b=I0):CS (.ao b (h::hs) [] [] p::r) (.XO (cS g cl k L b) (cH g L (h::hs)) (cS g cl k L r))
 |p_ x a b sc p r(h1:A5 x=I0)(h2:z6 L x=I0)(h4:MY L a b sc=I0):CS (.JU x a b [] A2 [] sc A2 x p::r) (.p_ (vc x) (cS g cl k L r))
variable{k L}{r:List Stmt}{p:Pos}
theorem pC0{ts:P0 C1}{e:C1}:CS g cl k L (.PF ts e p::r) (X20 (cE g cl k L) (cS g cl k L) L ts e r):=by
 cases ts using i5 with
 |B0=>exact .M2 _
 |A0 t q=>
  cases q using i5 with
  |A0=>exact .M2 _
  |B0=>
   show CS g cl k L _ (bif dM t e&&mG (cF t)&&uK t e then _ else _);cases h:dM t e&&mG (cF t)&&uK t e with
   |R0=>exact .M2 _
   |I0=>
    rw[N5,N5]at h;exact .V1 _ _ _ _ h.1.1 h.1.2 h.2
theorem qC0{b el fb:P0 P5}{hs:P0 xD}:CS g cl k L (.ao b hs el fb p::r) (Y20 g (cS g cl k L) L b hs el fb r):=by
 cases hs using i5 with
 |B0=>exact .M2 _
 |A0 h q=>
  show CS g cl k L _ (bif jB el&&(jB fb&&KV b)then _ else _);cases hh:jB el&&(jB fb&&KV b)with
  |R0=>exact .M2 _
  |I0=>
   rw[N5,N5]at hh;obtain O:=cM hh.1;obtain O:=cM hh.2.1;exact .XO _ _ _ _ _ hh.2.2
theorem rC0{x x':u0}{a:MK}{b:P0 P5}{dl:P0 C1}{rt:Q1 C1}{tp:P0 pV0}{sc:cA}{ts:Q1 cA}:CS g cl k L (.JU x a b dl rt tp sc ts x' p::r) (Jr (cS g cl k L) L x a b dl rt tp sc ts x' r):=by
 unfold Jr;cases h:jB dl&&(cO rt&&(jB tp&&(cO ts&&(A5 x&&(z6 L x&&(x==x'&&MY L a b sc))))))with
 |R0=>exact .M2 _
 |I0=>
  simp only[N5]at h;obtain⟨h1,h2,h3,h4,h5,h6,h7,h8⟩:=h;obtain O:=cM h1;obtain O:=Ob h2;obtain O:=cM h3;obtain O:=Ob h4;obtain O:=dD h7;exact .p_ _ _ _ _ _ _ h5 h6 h8
theorem sC0{st:P0 P5}:CS g cl k L st (cS g cl (k+1) L st):=by
 cases st using i5 with
 |B0=>exact .B0
 |A0 s r=>
  cases s using P5.n8 with
  |C1 e p=>
   show CS g cl k L _ (bif Vb e then _ else _);cases h:Vb e with
   |I0=>exact .M2 _
   |R0=>exact .B6 _ _ _ h
  |Vn=>exact .pas _ _
  |Ez=>exact .cB _ _
  |vx=>exact .bB _ _
  |WK v p=>
   cases v using i9 with
   |H0=>exact .Z20 _ _
   |E0 e=>exact .U1 _ _ _
  |PF=>exact pC0 g cl
  |If=>exact .K3 _ _ _ _ _
  |eX t it b el p=>
   show CS g cl k L _ (bif jB el&&mG (cF t)then _ else _);cases h:jB el&&mG (cF t)with
   |R0=>exact .M2 _
   |I0=>
    rw[N5]at h;obtain O:=cM h.1;exact .RE _ _ _ _ _ h.2
  |Fz t b el p=>
   show CS g cl k L _ (bif jB el then _ else _);cases h:jB el with
   |R0=>exact .M2 _
   |I0=>
    obtain O:=cM h;exact .LM _ _ _ _
  |pR e c p=>
   cases e using i9 with
   |H0=>exact .M2 _
   |E0 e=>
    show CS g cl k L _ (bif cO c then _ else _);cases h:cO c with
    |R0=>exact .M2 _
    |I0=>
     obtain O:=Ob h;exact .Ub _ _ _
  |ao=>exact qC0 g cl
  |JU=>exact rC0 g cl
  |_=>exact .M2 _
end
end
end
end
section
def AG(n:C0)(f:C0->I1):I1:=@bR (λ _=>I1) I0 (λ d ih=>bif f d then ih else R0) n
def fM(ι:C0->C0):PV->PV
 |.J0 i=> .J0 (ι i)
 |.A0 a r=> .A0 (fM ι a) (fM ι r)
 |.kv k v r=> .kv k (fM ι v) (fM ι r)
 |.Q0 l=> .Q0 (fM ι l)
 |p=>p
def UD(k:C0):PV->I1
 |.J0 i=>Y6 i k
 |.A0 a r=>UD k a&&UD k r
 |.kv _ v r=>UD k v&&UD k r
 |.Q0 l=>UD k l
 |.ty _=>R0|.wr _=>R0|.pC _=>R0
 |_=>I0
def NV(ι:C0->C0):AO->AO
 |.M1 l=> .M1 (fM ι l)
 |.H2 l=> .H2 (fM ι l)
 |.W6 l=> .W6 (fM ι l)
 |.w7 c d=> .w7 c (ι d)
 |.S4=> .S4
 |_=> .K4
def RQ:AO->I1
 |.W6 _=>I0
 |_=>R0
def SQ(σ:K1)(k:C0):AO->I1
 |.M1 l=>UD k l
 |.H2 l=>UD k l
 |.W6 l=>UD k l
 |.w7 _ d=>Y6 d k&&RQ (CA d)
 |.S4=>I0
 |_=>R0
def gM(p:PV):PV->I1:=@X_ (λ _=>PV->I1)
 (λ q=>match q with|.H0=>I0|_=>R0)
 (λ b q=>match q with|.O3 c=>(match b,c with|I0,I0=>I0|R0,R0=>I0|_,_=>R0)|_=>R0)
 (λ i q=>match q with|.j0 j=>ua i j|_=>R0)
 (λ m q=>match q with|.Z0 k=>Y1 m k|_=>R0)
 (λ m q=>match q with|.EG k=>Y1 m k|_=>R0)
 (λ q=>match q with|.B0=>I0|_=>R0)
 (λ _ _ f g q=>match q with|.A0 b r=>bif f b then g r else R0|_=>R0)
 (λ k _ _ f g q=>match q with|.kv k' b r=>bif Y1 k k' then(bif f b then g r else R0)else R0|_=>R0)
 (λ _ f q=>match q with|.Q0 l=>f l|_=>R0)
 (λ i q=>match q with|.J0 j=>Y1 i j|_=>R0)
 (λ i q=>match q with|.Y0 j=>Y1 i j|_=>R0)
 (λ _ _=>R0) (λ _ _=>R0) (λ _ _=>R0) p
def Kr(o:AO):AO->I1:=match o with
 |.K4=>λ q=>match q with|.K4=>I0|_=>R0
 |.M1 l=>λ q=>match q with|.M1 m=>gM l m|_=>R0
 |.H2 l=>λ q=>match q with|.H2 m=>gM l m|_=>R0
 |.W6 l=>λ q=>match q with|.W6 m=>gM l m|_=>R0
 |.w7 c d=>λ q=>match q with|.w7 c' d'=>bif Y1 c c' then Y1 d d' else R0|_=>R0
 |.S4=>λ q=>match q with|.S4=>I0|_=>R0
 |_=>λ _=>R0
def CM:AO->I1
 |.K4=>I0
 |_=>R0
def a20(OV:K1)(K:C0)(ι:C0->C0)(σ:K1):I1:=
 bif AG K (λ j=>bif Y6 (ι j) tJ then(bif CM (qN j)then I0 else Kr (NV ι (qN j)) (CA (ι j)))else R0)then
  AG K (λ i=>bif CM (qN i)then I0 else AG i (λ j=>bif CM (qN j)then I0 else(bif Y1 (ι i) (ι j)then R0 else I0)))else R0
def NY:K1:=⟨(((((((((be (.w7 693 1) 0).A9 (.W6 (.kv 1716665101378068231851647304238 (.J0 2) (.kv 1912560622601114663097907138635498125 (.Z0 1) (.kv 2644861503175544818025841171935613078797742710230483925 ((.Q0 (Qp (.Q0 (QS 0))))) (.kv 1912584653721662062459442856394687122 (.J0 6) (.kv 1912582937213711817717533567144559226 (.J0 9) (.kv 1716686671112994660760021893658 (.J0 10) (.kv 1912584653733987612828518699830608517 (.J0 11) (.kv 1912584653723202761268549962789618324 (.J0 12) (.kv 1716688211824249799044022927923 (.J0 13) (.kv 2946711608558749972067109827797935780332207413760206063338572 (.j0 (.O4 0)) (.kv 1540835715379308926534068 (.J0 14) (.kv 1912586370243478567442659852517835430 (.Q0 (.A0 (.Z0 1716666642074111563354414514736) (.A0 (.Q0 .B0) .B0))) .B0))))))))))))) 1).A9 (.w7 828 3) 2).A9 (.W6 (.kv 2130835426313518591802412128700436175454977 (.J0 4) (.kv 1540856458752192413630897 (.J0 15) (.kv 2373991449345118925378725513107526435137709081457 (.J0 16) (.kv 1540856458736056198103483 (.J0 17) (.kv 1912584653746313192238310373942559390 (.J0 18) (.kv 1716688211818718239147990712875 (.J0 19) (.kv 1912584653746313206067229353354724001 (.J0 20) (.kv 1912584653723202751588304318841356925 (.J0 21) .B0))))))))) 3).A9 (.w7 828 5) 4).A9 (.W6 (.kv 2130835426313518591802412128700436175454977 (.H0) (.kv 1540856458752192413630897 (.J0 22) (.kv 2373991449345118925378725513107526435137709081457 (.J0 23) (.kv 1540856458736056198103483 (.J0 24) (.kv 1912584653746313192238310373942559390 (.J0 25) (.kv 1716688211818718239147990712875 (.J0 26) (.kv 1912584653746313206067229353354724001 (.J0 27) (.kv 1912584653723202751588304318841356925 (.J0 28) (.kv 1540835715390480140927398 (.Y0 864) (.kv 1716688211807655114390935175711 (.J0 7) (.kv 2373991449312608362642297480911914725047577609049 (.J0 8) .B0)))))))))))) 5).A9 (.H2 (.kv 1114202 (.Q0 (.A0 (.Z0 1114179) .B0)) .B0)) 6).A9 (.H2 (.kv 1114197 (.Z0 1912586370229612303052652743982056108) (.kv 1114183 (.Z0 1540848161411727755903418) (.kv 1114179 (.Z0 1716689752510612883661577388586) .B0)))) 7).A9 (.H2 (.kv 1114197 (.Q0 (.A0 (.Q0 .B0) (.A0 (.Q0 (.A0 (.Z0 1114198) .B0)) .B0))) (.kv 1114183 (.Q0 (.A0 (.Q0 .B0) (.A0 (.Q0 (.A0 (.Z0 1114198) .B0)) .B0))) .B0))) 8),29,.B0,0,[]⟩
def Gf(σ:K1)(i:C0):C0:=match CA i with|.w7 _ d=>d|_=>0
def kB(σ:K1)(d x:C0):C0:=match CA d with|.W6 l=>(match I4 x l with|E0 (.J0 i)=>i|_=>0)|_=>0
def vm(l:P0 C0):C0->C0:=@pL C0 (λ _=>C0->C0) (λ _=>0) (λ a _ ih i=>@bR (λ _=>C0) a (λ j _=>ih j) i) l
def tC0(σ:K1)(a cd w wd m md:C0):P0 C0:=[a,cd,w,wd,m,md,kB σ cd 1912584653721662062459442856394687122,kB σ md 1716688211807655114390935175711,kB σ md 2373991449312608362642297480911914725047577609049,kB σ cd 1912582937213711817717533567144559226,kB σ cd 1716686671112994660760021893658,kB σ cd 1912584653733987612828518699830608517,kB σ cd 1912584653723202761268549962789618324,kB σ cd 1716688211824249799044022927923,kB σ cd 1540835715379308926534068,kB σ wd 1540856458752192413630897,kB σ wd 2373991449345118925378725513107526435137709081457,kB σ wd 1540856458736056198103483,kB σ wd 1912584653746313192238310373942559390,kB σ wd 1716688211818718239147990712875,kB σ wd 1912584653746313206067229353354724001,kB σ wd 1912584653723202751588304318841356925,kB σ md 1540856458752192413630897,kB σ md 2373991449345118925378725513107526435137709081457,kB σ md 1540856458736056198103483,kB σ md 1912584653746313192238310373942559390,kB σ md 1716688211818718239147990712875,kB σ md 1912584653746313206067229353354724001,kB σ md 1912584653723202751588304318841356925]
def uC0(σ:K1)(a cd w wd m:C0):P0 C0:=tC0 σ a cd w wd m (Gf σ m)
def vC0(σ:K1)(a cd w wd:C0):P0 C0:=uC0 σ a cd w wd (kB σ wd 2130835426313518591802412128700436175454977)
def bh(σ:K1)(a:C0):P0 C0:=vC0 σ a (Gf σ a) (kB σ (Gf σ a) 1716665101378068231851647304238) (Gf σ (kB σ (Gf σ a) 1716665101378068231851647304238))
def Wb:C0:=29
def dh:C0:=1383033027922952525
def OY:C0:=1716680508353713361107977503283
def PY:C0:=2644892361827981309523248531407596083753653009347511246
def YS(p:PV):Q1 C0:=match p with
 |.J0 i=>E0 i
 |_=>H0
def fX(p:PV):Q1 C0:=match p with
 |.ty i=>E0 i
 |_=>H0
def wrP(p:PV):Q1 C0:=match p with
 |.wr i=>E0 i
 |_=>H0
def wC0(i:B2):Q1 C0:=match i with
 |.O4 n=>E0 n
 |_=>H0
def Yb(p:PV):Q1 C0:=match p with
 |.j0 i=>wC0 i
 |_=>H0
def b20(p:PV):I1:=match p with
 |.Y0 _=>I0
 |.J0 _=>I0
 |_=>R0
def Lr(p:PV):Q1 (C0×PV×PV):=match p with
 |.kv k v r=>E0 (k,v,r)
 |_=>H0
def Gz(o:AO):Q1 (C0×C0):=match o with
 |.w7 c d=>E0 (c,d)
 |_=>H0
def Mr(o:AO):Q1 PV:=match o with
 |.W6 l=>E0 l
 |_=>H0
def fh(o:AO):I1:=match o with
 |.S4=>I0
 |_=>R0
def a1(p:PV):Q1 PV:=(qH p).S6 λ x=>bif YM x.2 then E0 x.1 else H0
def a2(p:PV):Q1 (PV×PV):=(qH p).S6 λ x=>(a1 x.2).Y4 λ b=>(x.1,b)
def a3(p:PV):Q1 (PV×PV×PV):=(qH p).S6 λ x=>(a2 x.2).Y4 λ b=>(x.1,b)
def Nr(x:C0)(l:PV):Q1 (C0×PV):=(Lr l).S6 λ q=>bif Y1 q.1 x then(YS q.2.1).Y4 λ i=>(i,q.2.2)else H0
def Pr(X9:C0)(σ:K1)(o:AO):I1:=((Gz o).S6 λ x=>bif Y1 x.1 X9 then(Mr (CA x.2)).S6 λ l=>(Nr OY l).S6 λ q=>(Nr PY q.2).S6 λ r=>bif YM r.2 then E0 x.2 else H0 else H0).AM
def c20(p:PV)(σ:K1):Q1 (H7 PV):=(a2 p).S6 λ q=>(YS q.1).S6 λ i=>(Yb q.2).S6 λ n=>bif fh (CA i)then(bif Y1 n 0 then H0 else bif T9 n 60 then E0 (.YG n λ d=> .B9 (.j0 (.O4 d)) σ)else H0)else H0
def d20(p:PV)(σ:K1):Q1 (H7 PV):=(a2 p).S6 λ q=>(YS q.1).S6 λ i=>(Yb q.2).S6 λ n=>bif fh (CA i)then(bif T9 n 2 then E0 (.B9 (.ty E6) (mU (.RC (zL n) n)))else H0)else H0
def e20(X9:C0)(p:PV)(σ:K1):Q1 (H7 PV):=(a2 p).S6 λ q=>(YS q.1).S6 λ a=>(fX q.2).S6 λ i=>bif Pr X9 σ (CA a)then E0 (.B9 (.ty i) σ)else H0
def f20(p:PV)(σ:K1):Q1 (H7 PV):=(a2 p).S6 λ q=>(fX q.1).S6 λ i=>bif b20 q.2 then E0 (.B9 (.ty i) σ)else H0
def g20(X9:C0)(p:PV)(σ:K1):Q1 (H7 PV):=(a3 p).S6 λ q=>(YS q.1).S6 λ a=>(r_ q.2.1).S6 λ l=>(a2 l).S6 λ x=>(US x.1).S6 λ v=>(Yb x.2).S6 λ _=>(fX q.2.2).S6 λ _=>
 bif Pr X9 σ (CA a)then(bif Y1 v dh then E0 (.B9 (.O3 R0) σ)else H0)else H0
def h20(p:PV)(σ:K1):Q1 (H7 PV):=(a1 p).S6 λ q=>(fX q).S6 λ _=>E0 (.B9 (.EG 2000) σ)
def i20(p:PV)(σ:K1):Q1 (H7 PV):=(a1 p).S6 λ q=>(fX q).S6 λ i=>E0 (.B9 (.wr i) σ)
def j20(p:PV)(σ:K1):Q1 (H7 PV):=(a2 p).S6 λ q=>(YS q.1).S6 λ a=>(wrP q.2).S6 λ i=>bif a20 NY Wb (vm (bh σ a)) σ then E0 (.B9 (.ty i) σ)else H0
def i7(X9 tf k:C0)(L1:PV)(σ:K1):Q1 (H7 PV):=
 match k with
 |0=>c20 L1 σ
 |1=>d20 L1 σ
 |2=>e20 X9 L1 σ
 |3=>f20 L1 σ
 |4=>g20 X9 L1 σ
 |5=>h20 L1 σ
 |7=>i20 L1 σ
 |8=>j20 L1 σ
 |_=>H0
def jh:PV->I1
 |.O3 I0=>I0
 |_=>R0
inductive Rr:PV->I1->Prop
 |no p:Rr p R0
 |F6:Rr (.O3 I0) I0
theorem l20{p:PV}(h:jh p=I0):p=.O3 I0:=by
 have sh:Rr p (jh p):=by
  cases p using Q3 with
  |O3 b=>
   cases b using o7 with
   |I0=>exact .F6
   |R0=>exact .no _
  |_=>exact .no _
 rw[h]at sh;generalize hb:I0=b at sh;cases sh with
 |no=>contradiction
 |F6=>rfl
theorem dF{a b:I1}(h:(bif a then b else R0)=I0):a=I0/\b=I0:=by cases a using o7<;>cases b using o7<;>first|exact⟨O,O⟩|contradiction
theorem cR{f:C0->I1}:∀{n:C0},AG n f=I0->∀i,i<n->f i=I0:=by
 intro n;induction n with
 |K9=>exact λ _ i h=>U3 h (RG i)
 |J9 n ih=>
  intro h i hi;obtain⟨h1,h2⟩:=dF h;rcases ch hi with q|O
  ·exact ih h2 i q
  ·exact h1
def ZS(σ τ:K1)(k:C0):I1:=AG k λ i=>Kr (CA i) (τ.q8 i)
def S8(c:PV->K1->I1)(o:H7 PV):I1:=@K00 PV (λ _=>I1) (λ a s=>c a s) (λ _ _=>R0) (λ n _ ih=>AG n ih) (λ _=>R0) o
def aS:K1:=⟨.B0,0,.B0,0,[]⟩
def HB:C0->I1:=λ _=>R0
def nG:K1:=⟨be .S4 0,1,.B0,0,[]⟩
noncomputable abbrev eN(x:V6)(l c d:C0):C1:=.u3 (EA x) ⟨l,c,l,d⟩
noncomputable abbrev eI(i:B2)(l c d:C0):C1:=.H8 (.j0 i) 0 ⟨l,c,l,d⟩
noncomputable abbrev eB(b:I1)(l c d:C0):C1:=.H8 (.O3 b) 0 ⟨l,c,l,d⟩
noncomputable abbrev eS(o i:C1)(l c d:C0):C1:=.BD o i ⟨l,c,l,d⟩
noncomputable abbrev eO(op:C_)(a b:C1)(l c d:C0):C1:=.Q_ a op b ⟨l,c,l,d⟩
noncomputable abbrev eC(f:C1)(as:P0 C1)(l c d:C0):C1:=.C7 f as [] ⟨l,c,l,d⟩
noncomputable abbrev eQ(op:jE)(a b:C1)(l c d:C0):C1:=.aP a [op] [b] ⟨l,c,l,d⟩
end
section
def kI(n:C0):C:=.v0 (.j0 (.O4 n))
def kS(n:C0):C:=.v0 (.Z0 n)
def k0:C0:=0x19fd38c29af1fba57ad729ff6d1a68ee1bb220326
def k1:C0:=0x2330abaed5435e120d976d08ae092c5235702e337f44e01f55c17f1ff862f10420
def k2:C0:=0x1875d9a12aad177ff4c7e9023fc28b4102ba
def k3:C0:=0x1f2c506535c06839d13ca87c4c8575bcd8e1fc32d49771ad6ec30454
def k5:C0:=0x19fd38c29af1fba2c58b9af620b917a8fbbff0330
def k6:C0:=0x27ba61fa52c46a542d438c4a1819a395780a5ed2487a21122a3bf4f1b74386dbc7feeadf063a
def k7:C0:=0x211f175e4e22c2319db888560509844363a3eb7121a04ee9be907d23d04f3
def k8:C0:=0x19fd38c29af1fba57ad7159b61e6a9a2bbb660325
def k9:C0:=0x233140b77c9c89d0b6fe9a8cc58bb538fe06597cca16e1b73531f898e9036104d5
def k10:C0:=0x1d56e087528f02e12e5e225ad4558fcd19a880f67ed293c03df
def k11:C0:=0x15aae2491b9b3fcd6147fc0215
def k12:C0:=0x1b9d2cca9ed7d152567466fa6ee930257c160601fd0397
def k13:C0:=0x1b9d300a334ec80fbf41083e3bd024ccb98a09fd460387
def k14:C0:=0x1b9d300a334ec80fbf41083e3bd024ccb98d6cff4403a8
def k15:C0:=0x1d5704c4a98457c5a7b614b630110c0864a2a1bb3be3ed1040b
def k16:C0:=0x1d57030ae30018e84f8614b63011110d055624f673d4256041b
def k17:C0:=0x19fd41ee99083ba127e2fe6dcb00ffc62beeb0346
def k18:C0:=0x1d56eae1ff09ca21d917acd84b504d756022cdc3b3646b80439
def k19:C0:=0x1b9d230be04d6d5473685701b863a9c63a0b56f9f403af
def k20:C0:=0x1b9cf591ba0ed0e45b1fb62166211ada2959bdb9df02ca
def k21:C0:=0x1b9d17ad57c4b35941af992724a2d3d4f7ea99fc8b03be
def k22:C0:=0x19fd4375ef2baf6075cbb232bc6ad3517c5290351
def k23:C0:=0x211f30b1c263505f16b8557cc9b49f554c70726298df2422a617ad8150503
def k24:C0:=0x27ba9ebbae6847e8abb4d6f65a8034f1a701726ec397bd21f5d922047a4a5e2e6e4dff20065e
def k25:C0:=0x1b9d264b755723f620d832593cffe56e24e21804d803b0
def k26:C0:=0x14647ac0a7a2f20460145
def SE:C0:=0x15aad95d5281e3aee647fc0230
def k28:C0:=0x19fd4375ef2baf6075cbb232ce68c6d89c8d00367
def k29:C0:=0x1875f7d7b9659366e2f5640870d39adc02ff
def k30:C0:=0x1f2c599028cb03fa52d927ddbe34e7181f1c5cc0bbde550792c104cc
def k31:C0:=0x211f3e54d8528c663830c7e6219fb2705756aa5aaf626de6a371adea8051f
def k32:C0:=0x1b9d264b755723f620d718b2cfb5de42477a3c029603ca
def k33:C0:=0x170586f32f3b2627f7b2f8368ca027b
def k34:C0:=0x1f2c76e665b43d186b0cead39aef83ee1766b7febbd22aea95e004b4
def k35:C0:=0x1b9d300a347447b2e0659bad19246e09611acd0b6b03f0
def k36:C0:=0x1d57030ae382082f890f9e740f5be148527f60134f64ca10439
def k37:C0:=0x1b9d194d2255c949381e74b2a20e6aed4c472bfd4603b5
def k38:C0:=0x1f2c3a6486cd0ef33e7d3ff71009885071f1c321ac9893872a900374
def gJ:C0:=0x1464978a2f65d2c4b01b1
def kh:C0:=1241311281316
def mh:C0:=0x1331417a0ad300d4
def nh:C0:=0x13313cf60a6d00d2
def oh:C0:=0x13313f380ae400d7
def tC:C0:=1241311281328
def qh:C0:=0x1331417a0ad300e0
def uh:C0:=0x13313cf60a6d00de
def vh:C0:=0x13313f380ae400e3
def wh:C0:=0x15aad95d538e91d66949b60236
def k49:C0:=0x23311d873afb2fbdd028bba2ae5a86c742de8e722b6337ca5e2c18f2cc27920564
def k50:C0:=0x1f2c7510fff9d6e811e9a9caa378ca07365f074107ea7d10969b04b9
def k51:C0:=0x1d57030ae19447dbce47637b4eb7d5aad8a7dbb728746630440
def k52:C0:=0x1d56e92836cbc44d9c2fddfcf16721e7a33daa0362c3ca00417
def k53:C0:=0x1d56e9283663d19a0d60d51a0ec4dec61ae63616ef62fcf041f
def k54:C0:=0x1705884dd4b11a7b90e2f83680f024d
def k55:C0:=0x1b9d194d2255c949381d4561dc1edbbb43b7ccf94a03a4
def k56:C0:=0x211f230eaaf6b35c7b118dd54753f6b831dcd4c95803005e6ba7bc63804e6
def k57:C0:=0x1f2c5b658c78cdb958ab4409f3d5f7fb2057a83fb92499f97bc70483
def k58:C0:=0x1f2c751100310fcf56d2013032138e493872525d9626d7b8894204a9
def k59:C0:=0x211f230eaaf6b35c7b118dd54753f6b831dcd4c9d25b7d27ee31fc83604f6
def k60:C0:=0x1d56f00f54d23cae9ff8c68ae5cf777991e59694f884960044b
def k61:C0:=0x1f2c60e5b92055c6adc33cf320951d4e2285bb26813f3fd7921704be
def k62:C0:=0x233129f29c45803be9704aedfb8c2848bfe488d189293e2a17a6c270a130670566
def k63:C0:=0x1b9d300a3241bd857570236356975bc58a266efa3803a4
def k64:C0:=0x256449c3ef644aa0d137d26c05f1c41b92cd694406c7922942cb3e6ce736ab097aa05e0
def k65:C0:=0x1875e3b35b3caec0a0d20cfd58db94d102f0
def k66:C0:=0x211f4047925888f1b0521f1425ef355db5734c90c1b73a42b076dd84804fd
def k67:C0:=0x19fd5ef9e89f42803da64a8082e816948c7af034d
def k68:C0:=0x1d56f6f67083022e91747fbc45e9adadd5be6f583ce361e0404
def k69:C0:=0x15aae9eea2e180e3f5484001fa
def k70:C0:=0x1b9cfa711916dd9d3cdbbb3025932be470109fbd3102cd
def k71:C0:=0x170599e83bae831de689ac26996025a
def k72:C0:=0x1875e3b35b3caec0a0d173753b81939f02fe
def k73:C0:=0x146469f5c4e281d49012f
def vK:C0:=0x14649057cdea82a09018f
def k75:C0:=0x1875f4f71907ef1398ed650fd3e8954802bd
def k76:C0:=0x19fd4fb09663282252f714775c54d8d25c67d0353
def k77:C0:=0x1f2c5b658e3294d983594773734af966e364537d605ba0678898049c
def k78:C0:=0x1875e0d2bb35b3cfece73a3a1761915d02e0
def k79:C0:=0x133187781672011d
def k80:C0:=0x133178cb150d0127
def k81:C0:=0x19fd5d7293a70f93b3c37dc223c373c20c9580345
def k82:C0:=0x1875fc28a94f8c3b0a5990ed1b07978a02d2
def k83:C0:=0x15aad81711351faa624796020e
def k84:C0:=0x1b9d230be096cd5721507b1f8eb1192e66f0c5065f03c6
def k85:C0:=0x1b9d17ad5793c8ba3b553f338da8ab4ea0f4c2fc8b03b1
def k86:C0:=0x19fd41ee9a1c77a110b4ce1b8ffe86905c705034d
def k87:C0:=0x1875a18500f50a0980fe5448a052840402b7
def lB:C0:=0x13318778171c014f
def k89:C0:=0x17057148d76187f01065fcb6248025d
def P7:C0:=0x15aae38f5c14e8c21746db0217
def W3:C0:=1114198
def k92:C0:=0x170572a37cd77c4c0f06b15629d025e
def iJ:C0:=1114199
def k94:C0:=0x1b9d160d8d7cfd6076a8187af2fc457ad605b1fbf203ad
def k95:C0:=0x1d56e9283781acd00a7bb04d5695ca08fbb03be99c746850435
def k96:C0:=0x211f3c621d4487a9ee8bcf769b6bff23748a9859bb5e049b846fdce5204e4
def k97:C0:=0x1b9d2e6a69fba71defa3870942bf590edca2450e7903d7
def k98:C0:=0x19fd58dc943459350aca506a71d08125bc903034e
def k99:C0:=0x19fd58dc9548952cd3bbc25269a1d4e73d11d0364
def xC0:C0:=0x1f2c599028cb03f8b30e34f281cea3911a3198134d865a2684be0488
def yC0:C0:=0x211f3497352c952af27944afb5b6a80cc31acffbe444955b0bfb3e64b051c
def zC0:C0:=0x19fd57553e83fe6f618b93bc8fe8889c2c6060347
def AD0:C0:=0x19fd41ee9abd9a857ab5b9a6d3fa66360c6280349
def BD0:C0:=0x1b9d160d8d4c12ca122dbdcdedaf2db934d9ee020e03bf
def CD0:C0:=0x27ba930ca5faea1ec4eafc2208cf55d9678c2faa06a8297cb7c29b4ed338c30a92dae8f2062b
def DD0:C0:=0x2fa7426a2a55268ac87abeefb1b1f41672dbcbb811a1b3f9d732fc690f3a1cd4cb8d3a3c4c552a23bcb44a60780
def ED0:C0:=0x13318adb16a50148
def bS:C0:=1114221
def xh:C0:=0x1875e2430aac5e0f15569a87109b92f502ed
def Q2:C0:=0x14649057cdea82a0901af
def G6:C0:=0x1464a122b11752df401cb
def pG:C0:=0x1d56e087528f02e2b5b3bbb0b01ea0f5a00bee3ca673530040d
def qG:C0:=0x27ba61fa52c46a4be5ac7629ccd840c0f3f8d607073cb69cc8675309dd1696a95331e55c0639
def jJ:C0:=0x19fd38c29af1fbb9ca88c1c08d6ca4381c0fa0339
def rG:C0:=0x3928529607949eafdcdc4708516f1515eef678c06f1179f577148c698dcff36b489bc738def0f2baa092bf1bc6100c7cf3d44808c0
def kJ:C0:=0x1f2c506535c0683b7106d7bd19c51c4d06d86a87f83a89a57655046d
def l8:C0:=0x13317689151e0146
def nB:C0:=0x15aae9eea2e180e63748ea0228
def T8:C0:=0x14648df1ada242a2b01ab
def wK:C0:=0x1331853615fb014d
def iM:C0:=0x170599e83b5cf2e04cad2136f3b029b
def rH:C0:=0x133177aa14a70141
def KA:C0:=0x13318bfc17b5014d
def TQ:C0:=0x15aaf2da6bae19135f4b2c0225
def Z9:C0:=0x133187781672013d
def m20:C0:=0x15aad95d526eb2a39c4642020c
def VD:C0:=0x170599e83bae8334b0bef6d705c0297
def jM:C0:=0x1331865716610155
def sG:C0:=0x1464a122b074c2c0701b0
def M9:C0:=0x14648f24be20b2aa201a9
def UE:C0:=0x15aad95d52f509b6cd46db021e
def yh:C0:=0x133182f416a50153
def QV:C0:=0x15aaeb34e41b13f060490c021f
def xK:C0:=0x15aad95d51c1f9973145dc0214
def fF:C0:=1241372557536
def QY:C0:=0x15aaeb34e527c21a254aa40225
def Zb:C0:=0x170586f32ff2aad25b152826b50028f
def sH:C0:=0x1875ef35da959d9752af9e4b44cc9b530306
def Ai:C0:=0x1875f7d7b8a2964f707b9ea2cae095ae02f8
def VC:C0:=0x15aaeb34e42e44f2a24895021a
def E3:C0:=0x14648df1ad7e22a4d01b8
def jA:C0:=0x15aad817115b81b48b48620222
def SV:C0:=0x19fd57553faf3f655a5d11da08e770ab7d150037a
def Tr:C0:=0x19fd575540395d4629e893b6c8ece90cbcbab036c
def FD0:C0:=0x15aaec7b25c7cd05d34a820232
def u5:C0:=0x146492bdeee762b3b01b2
def n20:C0:=1241313509495
def I6:C0:=0x14648f24bdc6629b401a6
def lJ:C0:=0x17059b42e1101371178d7b86ef70292
def Q7:C0:=0x17059b42e1c7981cadfe5446d70028b
def zB:C0:=0x1464978a2f77e2c4b01b7
def KG:C0:=0x1b9d17ad580e136a52b5acdf007ab222c0d48c060a03d5
def dS:C0:=0x1d57030ae1e23dd3f3b92f04598a9ff6271bf30c0294278043b
def gb:C0:=0x15aae9eea2e180f60549c70226
def c6:C0:=0x15aad81711351faa624796022e
def y9:C0:=0x15aaec7b25c7ccf968492e022a
def Ur:C0:=0x1331877816830144
def GD0:C0:=0x15aad817115b81b48b4862021e
def Vr:C0:=0x15aaeb34e41b13e63747960215
def tE:C0:=0x17059b42e25654b7dc41c956fc3029e
def mJ:C0:=0x14649fefa171a2ec001d0
def kM:C0:=0x15aaeb34e4b49c0dba4b2c022b
def lM:C0:=0x14649fefa050a2cd301b2
def WD:C0:=0x1464a122b14d82d5b01bc
def o20:C0:=0x19fd4375ef2baf6075cbb232bb37c28acc42a034c
def jb:C0:=0x15aad81710aec88ac64587020e
def fO:C0:=0x14649c566f89f2b1901a3
def UQ:C0:=0x170586f32ff2aad25b14dfe6a40027f
def nJ:C0:=0x170599e83bae831b806a1886bd80290
def HD0:C0:=0x3cb9fa4817104147040a759d0a2cb1a1b50d338e27930969e2952ff2712fb8038e4f50f53428f2b7df91be8e7ac432ded79b6b5260807e2
def p20:C0:=0x19fd4375ef2baf6075ca80558f3e9f700c4f60355
def tH:C0:=0x15aaeb34e54e242b144c3c0230
def ID0:C0:=0x1464a722023852f0401a0
def Wr:C0:=0x1875f6676a049374e7c25702a27f9ea5030b
def Xr:C0:=0x1d57030ae1ae448afcf8a553a2e6b270436ac579c0940ad041b
def gO:C0:=0x19fd38c29af1fbb9ca8847680aa3d0449bdb90329
def WC:C0:=0x15aad95d5281e39f1844cc020e
def Ci:C0:=0x1705884dd4d9e2a78f8376a67fe026d
def pJ:C0:=0x1705947da6a29a83e5dc90b6cb5028b
def JD0:C0:=1114153
def KD0:C0:=1114147
def LD0:C0:=1114209
def IB:C0:=0x15aae9eea2e180ecfd49500222
def MD0:C0:=1114152
def ND0:C0:=1114146
def OD0:C0:=0x14643c615fa9e1e37017b
def PD0:C0:=0x14645df725df623ed016a
def q20:C0:=1114176
def QD0:C0:=1114205
def RD0:C0:=1241284542558
def SD0:C0:=1114207
def r20:C0:=1114154
def TD0:C0:=1241294569560
def Yr:C0:=0x146499f04f65d2be501b5
def s20:C0:=1241284542543
def UD0:C0:=1114155
def VD0:C0:=1114174
def iO:C0:=0x19fd575540395d550f0453a66879c008ecedb0371
def nM:C0:=0x14649fefa13b72d9f01b1
def TV:C0:=0x1875f7d7b990e80b6f7597703aa398de02fd
def UA:C0:=0x15aaeb34e42e44f6054a93023b
def VE:C0:=0x1875f66769adea2429374a547c1d9afe02ff
def t20:C0:=0x1705947da62841fb1db8d366be90296
def N9:C0:=0x15aadd301701b7cd61480d0226
def WD0:C0:=0xa03444f79f04b2346484ab1bb2de756e67cb252a9e7665307daadb0475eea3d2069e452aa541161cf900196ddd41ab765e33b3cab8446756ea91898f0d47432a692c5e53fe97e99f51b1721d9419d905ec0185083926aa5a4275c05e7c20e68
def Di:C0:=0x15aad95d51d52a7f7c439a020b
def uH:C0:=0x15aadd3016ee86ce824884021e
def R4:C0:=0x1875f4f71907ef1398ed650fd3e8954802dd
def Ei:C0:=0x15aaf1942aae1917e34be70240
def Fi:C0:=0x14648df1acffb29e701b4
def XD:C0:=0x15aae4d59dae70daed48fb021f
def qJ:C0:=0x15aae4d59f07e30ffc4bf80233
def iF:C0:=0x19fd4067445517e3fcd2d66b76d935937c914036d
def RY:C0:=0x133178cb15a6013e
def XD0:C0:=0x256393398daba44b2a3e58ea28430dbc9ee254e5b64c22cb5d5c67d47b62ca20fdd04df
def LG:C0:=0x15aad8171062047674433401f9
def Gi:C0:=0x15aaec7b2687b72e774cd5022e
def yK:C0:=0x14648f24bdfc92bb201c7
def pB:C0:=1114229
def qb:C0:=0x14648df1ada242a2b01a6
def jF:C0:=0x1875f66768eaed0dfd008b1a277299dd0301
def uE:C0:=0x1705884dd53fd717f2374606b94028d
def Zr:C0:=0x19fd41ee9a4a81aafaec3996cfe314e30cded0363
def gS:C0:=0x15aadaa3934850a03946a80217
def qD:C0:=0x17059b42e25654c6410562873e102aa
def iS:C0:=0x17059c9d87e0ad310c95bcd747a02b8
def vE:C0:=0x133178cb150d0147
def jS:C0:=0x14649fefa050a2c3a01bb
def lS:C0:=1241371443415
def SY:C0:=0x15aaf2da6c0e0e1a254ab50231
def br:C0:=0x1705884dd5e2f7a656f66d469c9028a
def u20:C0:=0x1d5704c4a98457c5a7b614b65b65b99512e47ebbbe8461f043c
def O9:C0:=0x13318adb1793015c
def pM:C0:=0x1875f66768d542ba707db7ff1683993302fc
def mS:C0:=0x170586f330070eeac0863716aea0288
def w20:C0:=0x1b9d264b755723f620d832593cffe56e24e21804d803d0
def YD0:C0:=0x32a0bf63deccbe56141d82d512b78f77045e0ad0d98446f20e1b8ff4f7ef7ffa4ba82734d189b0b176c3472a1c57073c
def ZD0:C0:=0x35cace8428afc8284144bc443c105999ed9b5bc4d0bc6e1a62ffe67c6001ec0890ccbaa4b92fa4f82367bdef458039f6d07af
def aD0:C0:=0x39277ec9188847f8ebe962d9c20c5cefd0fed84c139cbaad264a665e29290025d12d85dfc4c6b401450c1d22f21b0d8b731ddd07cd
def bD0:C0:=0x4d6452261de5a420c70e56806156b237fe8ba2f10c79bbecb75b2cbca7b280733c762aa7fa70a40666e4c64b45b35b3122e5a30293897ff239f521cf72aef4d099f
def jr:C0:=0x15aad95d532e9cc8dd47eb0223
def cD0:C0:=0x68cb9c591d1809efcdf24709ab41130b60acacc2659f0499fe1cc719bcdaef37c664db6fbb5c8faeee999280e1e50d34857a06315ac398b11be96ff599bc162c962a690c76ecd74f5b8bf6650b2e
def WE:C0:=1241377013979
def dD0:C0:=0x3928636548ac4b3d72cfd79f2b29cf401e273441ee3daaedfd334cc1e268106d6e9669466e13f2d85baa4fae917b8641986f030807
def x20:C0:=0x1705884dd48852592ac2e6268b90278
def kr:C0:=0x14649ebc90bd02e3801c4
def TY:C0:=1114215
def pS:C0:=0x15aad81710aec88d084499020b
def eD0:C0:=0x5cd5df12f89a2c50758058b58e2e1d63764ed4f5b6e4c3de11aea4b3523948b6366dc46c704a43eb9d9d2f2074d2719d6485630ecd1d55f3d6aaa497730eb390a4138f29ab42e60ad2
def fD0:C0:=0x3cbaed2e236d647c0eb0ac461b565ee6bcfda9688065a480b7b56161355aaf9ac686a6c43b8998e720927a641f8e27bd6a5a0cbf77a0839
def tG:C0:=0x170586f32f3b26292ac41936996028a
def i6:C0:=0x14648f24bd23d2882019c
def VQ:C0:=1114216
def sI:C0:=0x14648f24bd23d297001ab
def gD0:C0:=0x48d802f7f9342e303710e5864036aac2592f7d2b153db09cd19323e7369e4e17bfebe55cb10724877256a98e5588b705fb4fcd457aa5d2a1b27466171508e8
def Hi:C0:=0x13318bfc17b5012d
def y20:C0:=0x13318adb16e9014e
def A30:C0:=0x19fd4067445517e1478732fdf7af0e06cc4e5035b
def B30:C0:=0x1d56f00f54d23ca2655063d13b83f0919ac5704d67a3f9d0434
def yb:C0:=0x17059c9d8671a3c0af5f08e705c02ac
def Ii:C0:=0x1705884dd4b11a7b90e2f83680f026d
def UY:C0:=0x1464978a2f2fa2af701a1
def C30:C0:=0x1b9d2cca9de33c2031af7f0f354f12505537a102fc03ce
def zb:C0:=0x1875fc28a94f8c5c2cfb5cd5ba349c1f0302
def qM:C0:=0x1875ef35db01f158ed98ea5fa27f9e1d0318
def iD0:C0:=0x39277ec918bae8530ef4078804d28cad5828800fd7debe091e7e05440cc0f2953022ea7f51e528bf225e94f66208496f29d05e0778
def D30:C0:=0x17059b42e22d8c9ca8839ef70e40296
def jD0:C0:=0x96c7d14ec1b0dcec5f90eca89a88f7e27abb2a47e02a751464b90b84b18904052939e9e18349bda4664da7e740fe436aa1e1c17548533117af28dfa639c052900c4b7d836d0b4c88ada586a97011084d094da1a4ac34a6faea31680e19
def sr:C0:=0x14648df1ada242a2b01a2
def E30:C0:=0x1b9d17ad5793c8c5bdd3a9d09e29821ae0e2b2f9c103a7
def kD0:C0:=0x15aa816db83785be2e32780179
def lD0:C0:=0x448dfb9c1583a69451794d7ba94f45b727e953de3c1c096d21ca83802bcc6dc37c0c5ca4efbcb97c66bdc9d32cdb9776a74db830421c4c5f328c008a4
def mD0:C0:=0x1b9d300a337fb29d81dd14f3ae364bcd11e45a04a503cc
def nD0:C0:=0x211f3e54d90291c5aa162949a3f31e659d2a9e2f5e0489f00a962e4a2050f
def qS:C0:=0x19fd57553eb2086d1bf1b0d8717350953c9e00359
def uG:C0:=0x1875ef35d97bf73a99f85ee50b399aa90315
def WQ:C0:=0x14648df1acb77282d01a1
def Ac:C0:=0x15aae9eea2e180e3f54840021a
def F30:C0:=0x1705884dd53fd707275504069b80289
def oD0:C0:=0x1765b245b8d6658640ceb31c354697cd88706536f463d9dd43567e29c4f273a865b6e508ef23652254d01652b1c546869924d07fa6af772d8f0f3548c1b51801543bc09798893fd4221d6040763544c4aaafc4e6738ee23d481b14e8739454551fd0a89ce6593a8a35aa4ab6f5c6e86f362fad15c8db1a1e5d81617f0078c85fa312b0
def Bc:C0:=0x14648f24be20b2a5e019f
def pD0:C0:=0x35cba8d7bafd71c5f9749eaefd8e2071e96f3bc11ed494d369d1ac586e66ff73a7ea22d3141747588d29cdd3cb0cda9c90714
def qD0:C0:=0x2a363c3d80b60a549de4dfdb0011684c562170759e45afe6e2a46cbbb7364819c4b6d4c9125d705da
def G30:C0:=0x146498bd400862d3901ba
def rD0:C0:=0x1f2c5b658da886b4934b4536f02f2ebce31f9a02e60453fb6c0a03e7
def sD0:C0:=0x62a35fd39e0b86984833d0d28b798e360d7f282acd2d66695662c0b54e3492f1b9e4190fbdc2abca7f9428d428c7365465fe202e106136be8c69c0d9d0ea268030e75e3e3460140313b0b41
def tD0:C0:=0x575ff591261b16f5c1fe54d74f5dc06f02b6114df14086d315d69f744d1759f205dcc0c1d91d9a8ae8a30d50d932c6aee129aa79a729b56f6d294f68f8d3f7a6dfb85b5740a7d
def VV:C0:=0x170599e83bae831de689ac26996027a
def uD0:C0:=0x17059b42e1b33407e1bcd8f6c1c0285
def vD0:C0:=0x17059b42e124778849ede7e6e090294
def wD0:C0:=0x15aaeb34e501601a254bf80233
def xD0:C0:=0x1d57030ae2cc1fa5761aae16af59c1a2a744c07cbf94df5044c
def Cc:C0:=0x17059c9d8729287bdda2ea571e302a6
def yD0:C0:=0x40859db84518a05ff25b105797a84fb63152bd53c44d0ab6fed6d60fee23b7a0c9565ac8aad27f37cc85c893aae069137f46d8e25af7cdf90825
def WV:C0:=0x1875edc58af39eafcafaf13a482f99bb02f8
def VY:C0:=0x15aae9eea2e180ecfd49e90231
def H30:C0:=0x19fd4684998f2e07d98e6d9d0ab99a83dc8590369
def I30:C0:=0x1d56e9283781accb747d3acda866ff1e2ab4bb6f3d443bb0452
def ur:C0:=0x17059b42e25654c3dae4d20734802a1
def Ji:C0:=0x15aaec7b2687b729f34cb3022d
def zD0:C0:=0x1705947da6284205e94abb16ce8029a
def vH:C0:=0x133180b216e90158
def J30:C0:=0x15aaf1942aae190a574994021e
def K30:C0:=0x1b9d34e991c414d488eddd450440e907546b8efe4503ab
def Li:C0:=0x1331756814630139
def xr:C0:=0x15aadaa3934850a039460f020c
def L30:C0:=0x1464978a2e68f2a6f01a8
def AE0:C0:=0x1705a0ad77c831caa51598b739d02a2
def BE0:C0:=0x133187781793015a
def CE0:C0:=0x170586f32f3b2626c4a2c2067ed027e
def DE0:C0:=0x15aaec7b2601601a254b4e0222
def EE0:C0:=0x146499f04f1d92b6e01b7
def FE0:C0:=0x15aad95d53083ac57a48a6021c
def GE0:C0:=0x1b9d230bdf4062ecb115bdf22404cdce1cedfcfbe103be
def HE0:C0:=0x1875e2430b9aafd02d55533e6304931702d8
def M30:C0:=0x15aae2491ac824aa6245870211
def IE0:C0:=0x1d56ec9bc60ff80328350684bf34d10a237a68867d83ec00434
def JE0:C0:=0x211f28e6dac0b6a74fc2246083d70e3901c311d89e7d42ea58315d6d2050e
def KE0:C0:=0x1f2c76e664a0209dd134f2d39cf2cea44444bc8432c2d5b98de804b4
def LE0:C0:=0x15aae9eea2e180f3c34a1c0224
def ME0:C0:=0x1875e3b35b3caec0a0d246905fa1950402f6
def NE0:C0:=0x15aaf2da6cf45a39c14c090235
def OE0:C0:=1114159
def PE0:C0:=0x15aad81711351f9bb54576020a
def yr:C0:=0x1875f66768bf985b6bb07840dbcf96be02fa
def As:C0:=0x1b9d160d8d7cfd6076a884cea7d8a0f42710fbfb3703b9
def Cs:C0:=0x19fd60813c9a3e7ca8ff5a4469551712fca020352
def Ds:C0:=0x19fd575540395d5259baff8f46d9048ced0950361
def QE0:C0:=0x17059b42e124777fe47ba5e6bfa027d
def RE0:C0:=0x233129f29bc8d1b4ea1c3db2cede403f11eaea2f9db48f76534ba38cef21430557
def BC:C0:=0x1705884dd48852592ac40726ad90298
def N30:C0:=0x15aae4d59f07e3002e4a600222
def YV:C0:=0x133182f416a50157
def Es:C0:=0x17059b42e14d3faf7c4de7e6db40294
def O30:C0:=0x15aad95d51d52a7f7c43de0212
def xE:C0:=1114197
def jO:C0:=1114183
def zK:C0:=1114179
def Dc:C0:=1114217
def Ec:C0:=1114218
def P30:C0:=0x14647d26c70061d5a0114
def Q30:C0:=0x14647e59d73691d8d0115
def SE0:C0:=0x2fa656f9da5148906506802323480007d39996cf50f986e00e09419a30c2fff56658c2bce9309dabe0b8b2d06ab
def rS:C0:=0x14649ebc903e92bc301b1
def R30:C0:=1114162
def TE0:C0:=1114163
def S30:C0:=1114200
def UE0:C0:=0x1464a122b0aaf2d0601c5
def T30:C0:=1114201
def Mi:C0:=0x13318adb16e90146
def U30:C0:=0x146492bdeee762c2901b2
def Ni:C0:=0x211f230eaba6b8aaab2fc78a69a242dc75035db546e2920541c13817d0426
def Fc:C0:=0x15aad95d5281e3adc546fd0225
def VE0:C0:=0x15aae61bdf2196a4bd3e8e0191
def lO:C0:=1241372557529
def sS:C0:=0x14648f24bda24297001a3
def ZV:C0:=1114202
def aV:C0:=0x13318d1d16e90155
def Gs:C0:=0x14648f24bdd872a5e01a7
def Ic:C0:=0x14648df1acb77282d0197
def WE0:C0:=0x15aae9eea2e180e1b348400222
def Oi:C0:=0x15aaeb34e41b13f4e449fa0235
def V30:C0:=0x14648df1adea82b1901c1
def Qi:C0:=0x1331768915950142
def W30:C0:=0x14648f24bdc662aa201a9
inductive LT(α:Type)where
 |B0
 |S3(k:C0)(v:α)(l r:LT α)
def LT.o9{α:Type}(t:LT α)(d:α)(x:C0):α:=
 @xA0 α (λ _=>α) d (λ k v _ _ a b=>@L8 (λ _=>α) (@L8 (λ _=>α) b a (Y6 x k)) v (Y1 x k)) t
def Hs(x:C0)(l:P0 (C0×PV)):Q1 PV:=@pL (C0×PV) (λ _=>Q1 PV) A2 (λ p _ ih=>@L8 (λ _=>Q1 PV) ih (E0 p.2) (Y1 p.1 x)) l
def gL:P0 (C0×PV):=[(k0,(.Z0 k1)),(k2,.H0),(k3,.H0),(k5,.H0),(k6,(.Y0 6)),(k7,(.Y0 4)),(k8,(.Z0 k9)),(k10,.H0),(k11,(.Y0 21)),(k12,(.Y0 39)),(k13,(.Y0 52)),(k14,(.Y0 64)),(k15,(.Y0 76)),(k16,(.Y0 85)),(k17,(.Y0 92)),(k18,(.Y0 99)),(k19,(.Y0 106)),(k20,(.j0 (.O4 12))),(k21,(.Y0 113)),(k22,(.Y0 118)),(k23,(.Y0 125)),(k24,(.Y0 132)),(k25,(.Y0 173)),(k26,(.Q0 (.A0 (.Z0 SE) (.A0 (.Q0 .B0) .B0)))),(k28,(.Y0 186)),(k29,(.Y0 193)),(k30,(.Y0 198)),(k31,(.Y0 203)),(k32,(.Y0 210)),(k33,(.Y0 217)),(k34,(.Y0 224)),(k35,(.Y0 229)),(k36,(.Y0 236)),(k37,(.Y0 241)),(k38,(.Q0 (.A0 (.Z0 gJ) (.A0 (.Z0 kh) (.A0 (.Z0 mh) (.A0 (.Z0 nh) (.A0 (.Z0 oh) (.A0 (.Z0 tC) (.A0 (.Z0 qh) (.A0 (.Z0 uh) (.A0 (.Z0 vh) (.A0 (.Z0 wh) .B0)))))))))))),(k49,(.Y0 247)),(k50,(.Y0 254)),(k51,(.Y0 261)),(k52,(.Y0 266)),(k53,(.Y0 273)),(k54,(.Y0 290)),(k55,(.Y0 299)),(k56,(.Y0 304)),(k57,(.Y0 309)),(k58,(.Y0 314)),(k59,(.Y0 319)),(k60,(.Y0 326)),(k61,(.Y0 333)),(k62,(.Y0 340)),(k63,(.Y0 347)),(k64,(.Y0 352)),(k65,(.Y0 359)),(k66,(.Y0 364)),(k67,(.Y0 371)),(k68,(.Y0 378)),(k69,(.Y0 456)),(k70,(.Q0 (.A0 (.Z0 kh) (.A0 (.Z0 mh) (.A0 (.Z0 nh) (.A0 (.Z0 oh) (.A0 (.Z0 tC) (.A0 (.Z0 qh) (.A0 (.Z0 uh) (.A0 (.Z0 vh) (.A0 (.Z0 wh) .B0))))))))))),(k71,(.Y0 514)),(k72,(.Y0 526)),(k73,(.Z0 vK)),(k75,(.Y0 693)),(k76,(.Y0 702)),(k77,(.Y0 709)),(k78,(.Y0 716)),(k79,(.Y0 735)),(k80,(.Y0 756)),(k81,(.Y0 777)),(k82,(.Y0 799)),(k83,(.Y0 828)),(k84,(.Y0 839)),(k85,(.Y0 846)),(k86,(.Y0 853)),(k87,(.Q0 (.A0 (.Z0 lB) (.A0 (.Z0 tC) .B0)))),(k89,(.Q0 (.A0 (.Z0 P7) (.A0 (.Z0 W3) .B0)))),(k92,(.Q0 (.A0 (.Z0 P7) (.A0 (.Z0 iJ) .B0)))),(k94,(.Y0 864)),(k95,(.Y0 871)),(k96,(.Y0 878)),(k97,(.Y0 885)),(k98,(.Y0 892)),(k99,(.Y0 897)),(xC0,(.Y0 904)),(yC0,(.Y0 911)),(zC0,(.Y0 918)),(AD0,(.Y0 923)),(BD0,(.Y0 928)),(CD0,(.Y0 933)),(DD0,(.Y0 938)),(ED0,(.Y0 943))]
def gF(x:C0):Q1 PV:=Hs x gL
def cl(l:C0):C0:=l
def Js:S:=(.B6 .M2 (.V1 (.Z1 xh (.F0 Q2)) (.F0 xh) (.V1 (.Z1 G6 (.F0 Q2)) (.F0 G6) .B0)))
def f85:S:=(.K3 (.S1 .ne (.w0 (.F0 l8) (kI 0)) (.w0 (.F0 nB) (kI 0))) (.U1 (.v0 .H0)) .B0 (.V1 (.F0 T8) (.w0 (.F0 l8) (kI 0)) (.K3 (.S1 .f8 (.F0 T8) (.Q0 (.A0 (kS lB) (.A0 (kS P7) (.A0 (kS wK) (.A0 (kS iM) .B0)))))) (.U1 (.K7 (.S1 .eq (.w0 (.F0 l8) (kI 1)) (.w0 (.F0 nB) (kI 1))) (.M1 .B0) (.v0 .H0))) .B0 (.K3 (.S1 .eq (.F0 T8) (kS SE)) (.U1 (.K7 (.S1 .eq (.b1 .Z5 (.w0 (.F0 l8) (kI 1))) (.b1 .Z5 (.w0 (.F0 nB) (kI 1)))) (.mk .M1 (.pK (.w0 (.F0 l8) (kI 1)) (.w0 (.F0 nB) (kI 1)))) (.v0 .H0))) .B0 (.K3 (.S1 .eq (.F0 T8) (kS rH)) (.U1 (.K7 (.S1 .eq (.w0 (.F0 l8) (kI 2)) (.w0 (.F0 nB) (kI 2))) (.M1 (.A0 (.Q0 (.A0 (.w0 (.F0 l8) (kI 3)) (.A0 (.w0 (.F0 nB) (kI 3)) .B0))) .B0)) (.v0 .H0))) .B0 (.K3 (.S1 .eq (.F0 T8) (kS KA)) (.U1 (.M1 (.A0 (.Q0 (.A0 (.w0 (.F0 l8) (kI 1)) (.A0 (.w0 (.F0 nB) (kI 1)) .B0))) .B0))) .B0 (.K3 (.S1 .eq (.F0 T8) (kS TQ)) (.U1 (.K7 (.S1 .eq (.w0 (.F0 l8) (kI 2)) (.w0 (.F0 nB) (kI 2))) (.M1 (.A0 (.Q0 (.A0 (.w0 (.F0 l8) (kI 1)) (.A0 (.w0 (.F0 nB) (kI 1)) .B0))) .B0)) (.v0 .H0))) .B0 (.K3 (.S1 .eq (.F0 T8) (kS Z9)) (.V1 (.F0 m20) (.D8 (.S1 .eq (.w0 (.F0 l8) (kI 1)) (.w0 (.F0 nB) (kI 1))) (.S1 .eq (.b1 .Z5 (.w0 (.F0 l8) (kI 3))) (.b1 .Z5 (.w0 (.F0 nB) (kI 3))))) (.U1 (.K7 (.F0 m20) (.mk .M1 (.pK (.w0 (.F0 l8) (kI 3)) (.w0 (.F0 nB) (kI 3)))) (.v0 .H0)))) .B0 (.U1 (.M1 .B0))))))))))
def f92:S:=(.V1 (.F0 VD) (kS jM) (.V1 (.F0 sG) (.M1 (.A0 (.Q0 (.A0 (.F0 l8) (.A0 (.F0 nB) .B0))) .B0)) (.LM (.S1 .ne (.F0 sG) (.M1 .B0)) (.V1 (.Q0 (.A0 (.F0 M9) (.A0 (.F0 UE) .B0))) (.F4 .jK yh (.F0 sG) .B0) (.V1 (.F0 QV) (.Q0 (.A0 (.w0 (.F0 M9) (kI 0)) (.A0 (.w0 (.F0 UE) (kI 0)) .B0))) (.K3 (.S1 .eq (.F0 M9) (.F0 UE)) .bB .B0 (.K3 (.S1 .f8 (kS wK) (.F0 QV)) (.V1 (.F0 VD) (kS xK) .B0) (.K3 (.S1 .f8 (kS iM) (.F0 QV)) (.K3 (.or (.S1 .rI (.w0 (.F0 QV) (kI 0)) (.Q0 (.A0 (kS lB) (.A0 (kS iM) .B0)))) (.S1 .rI (.w0 (.F0 QV) (kI 1)) (.Q0 (.A0 (kS lB) (.A0 (kS iM) .B0))))) (.U1 (kS fF)) .B0 (.V1 (.F0 VD) (kS xK) .B0)) (.V1 (.F0 QY) (.K2 (.v0 (.Y0 85)) (.A0 (.F0 M9) (.A0 (.F0 UE) .B0))) (.K3 (.S1 .iG (.F0 QY) (.v0 .H0)) (.U1 (kS fF)) .B0 (.B6 (.F4 .pN Zb (.F0 sG) (.A0 (.F0 QY) .B0)) .B0))) .B0) .B0)))) (.U1 (.F0 VD)))))
def f99:S:=(.V1 (.F0 VD) (kS jM) (.V1 (.F0 sG) (.M1 (.A0 (.Q0 (.A0 (.F0 sH) (.A0 (.F0 Ai) .B0))) .B0)) (.LM (.S1 .ne (.F0 sG) (.M1 .B0)) (.V1 (.Q0 (.A0 (.F0 M9) (.A0 (.F0 UE) .B0))) (.F4 .jK yh (.F0 sG) .B0) (.K3 (.D8 (.S1 .eq (.w0 (.F0 M9) (kI 0)) (kS P7)) (.S1 .f8 (.w0 (.F0 M9) (kI 1)) (.F0 VC))) (.V1 (.F0 E3) (kS jM) (.K3 (.S1 .f8 (.w0 (.F0 M9) (kI 1)) (.F0 jA)) (.V1 (.F0 E3) (.K2 (.v0 (.Y0 92)) (.A0 (.w0 (.F0 jA) (.w0 (.F0 M9) (kI 1))) (.A0 (.F0 UE) .B0))) .B0) (.V1 (.w0 (.F0 jA) (.w0 (.F0 M9) (kI 1))) (.F0 UE) .B0) .B0)) (.K3 (.S1 .f8 (.w0 (.F0 UE) (kI 0)) (.Q0 (.A0 (kS wK) (.A0 (kS iM) .B0)))) (.V1 (.F0 E3) (.K2 (.v0 (.Y0 92)) (.A0 (.F0 M9) (.A0 (.F0 UE) .B0))) .B0) (.V1 (.F0 QY) (.K2 (.v0 (.Y0 85)) (.A0 (.F0 M9) (.A0 (.F0 UE) .B0))) (.V1 (.F0 E3) (.K7 (.S1 .iG (.F0 QY) (.v0 .H0)) (kS fF) (kS jM)) (.B6 (.F4 .pN Zb (.F0 sG) (.A0 (.or (.F0 QY) (.M1 .B0)) .B0)) .B0))) .B0) (.K3 (.S1 .eq (.F0 E3) (kS fF)) (.U1 (kS fF)) .B0 (.V1 (.F0 VD) (.K7 (.S1 .eq (.F0 E3) (kS xK)) (kS xK) (.F0 VD)) .B0)))) (.U1 (.F0 VD)))))
def XE0:S:=(.K3 (.S1 .ne (.b1 .Z5 (.F0 SV)) (.b1 .Z5 (.F0 Tr))) (.U1 (kS fF)) .B0 (.V1 (.F0 VD) (kS jM) (.RE (.Q0 (.A0 (.F0 sH) (.A0 (.F0 Ai) .B0))) (.pK (.F0 SV) (.F0 Tr)) (.V1 (.F0 E3) (.K2 (.v0 (.Y0 99)) (.A0 (.F0 sH) (.A0 (.F0 Ai) (.A0 (.F0 VC) (.A0 (.F0 jA) .B0))))) (.K3 (.S1 .eq (.F0 E3) (kS fF)) (.U1 (kS fF)) .B0 (.V1 (.F0 VD) (.K7 (.S1 .eq (.F0 E3) (kS xK)) (kS xK) (.F0 VD)) .B0))) (.U1 (.F0 VD)))))
def YE0:S:=(.U1 (.w0 (.F4 .nR FD0 (.F0 u5) (.A0 (kS n20) .B0)) (.v0 (.j0 (.PB 0)))))
def ZE0:S:=(.U1 (.J7 (.F0 I6) (.Q0 (.A0 (.F0 I6) (.A0 (.F0 lJ) .B0))) .B0 (.T4 (.Z1 Q7 (.F0 zB)))))
def aE0:S:=(.V1 (.F0 jA) (.H2 .B0) (.V1 (.F0 SV) (.Q0 (.A0 (.Z1 KG (.F0 zB)) .B0)) (.K3 (.S1 .gt (.b1 .Z5 (.F0 dS)) (kI 0)) (.V1 (.F0 SV) (.L6 .n6 (.mk .Q0 (.T4 (.Z1 dS (.F0 zB)))) (.F0 SV)) .B0) .B0 (.U1 (.Q0 (.A0 (.K2 (.v0 (.Y0 106)) (.A0 (.F0 SV) (.A0 (.L6 .n6 (.mk .Q0 (.T4 (.F0 dS))) (.Q0 (.A0 (.F0 W3) .B0))) (.A0 (.K2 (.v0 (.Y0 118)) (.A0 (.F0 zB) .B0)) (.A0 (.F0 jA) .B0))))) (.A0 (.F0 jA) .B0)))))))
def bE0:S:=(.K3 (.or (.D8 (.S1 .eq (.w0 (.F0 W3) (kI 0)) (kS rH)) (.hH (.w0 (.F0 W3) (kI 2)))) (.S1 .eq (.w0 (.F0 W3) (kI 0)) (kS gb))) (.U1 (.M1 .B0)) .B0 (.K3 (.S1 .eq (.w0 (.F0 W3) (kI 0)) (kS SE)) (.U1 (.mk .M1 (.T4 (.w0 (.F0 W3) (kI 1))))) .B0 (.U1 (.K7 (.S1 .eq (.w0 (.F0 W3) (kI 0)) (kS TQ)) (.M1 (.A0 (.w0 (.F0 W3) (kI 1)) .B0)) (.v0 .H0)))))
def cE0:S:=(.V1 (.Z1 c6 (.F0 Q2)) (.F0 c6) (.V1 (.Z1 lJ (.F0 Q2)) (.F0 lJ) .B0))
def dE0:S:=(.K3 (.D8 (.S1 .eq (.w0 (.F0 W3) (kI 0)) (kS P7)) (.S1 .f8 (.F0 y9) (.F4 .o9 Ur (.Z1 lJ (.F0 Q2)) (.A0 (.w0 (.F0 W3) (kI 1)) (.A0 (.Q0 .B0) .B0))))) (.U1 (.Q0 (.A0 (kS GD0) (.A0 (.w0 (.F0 W3) (kI 1)) .B0)))) .B0 (.U1 (.v0 .H0)))
def eE0:S:=(.V1 (.F0 Vr) (.M1 .B0) (.RE (.Q0 (.A0 (.F0 I6) (.A0 (.F0 tE) .B0))) (.T4 (.Z1 Q7 (.F0 zB))) (.K3 (.S1 .f8 (.F0 I6) (.F0 jA)) (.B6 (.F4 .pN Zb (.F0 Vr) (.A0 (.J7 (.Q0 (.A0 (.F0 y9) (.A0 (.w0 (.F0 jA) (.F0 I6)) .B0))) (.F0 y9) .B0 (.T4 (.F0 tE))) .B0)) .B0) .B0 .B0) (.U1 (.F0 Vr))))
def fE0:S:=(.V1 (.F0 mJ) (.M1 .B0) (.RE (.F0 zB) (.T4 (.Z1 kM (.Z1 c6 (.F0 Q2)))) (.K3 (.S1 .eq (.Z1 y9 (.F0 zB)) (.F0 y9)) (.V1 (.Q0 (.A0 (.F0 VD) (.A0 (.F0 jA) .B0))) (.K2 (.v0 (.Y0 125)) (.A0 (.F0 zB) (.A0 (.F0 lM) (.A0 (.F0 W3) .B0)))) (.RE (.Q0 (.A0 (.F0 nB) (.A0 (.F0 WD) .B0))) (.T4 (.K7 (.S1 .ne (.F0 VD) (kS fF)) (.F4 .K5 o20 (.F0 Q2) (.A0 (.F0 zB) (.A0 (.F0 jA) .B0))) (.M1 .B0))) (.V1 (.F0 E3) (.F4 .K5 jb (.F0 Q2) (.A0 (.F0 nB) (.A0 (.Q0 .B0) (.A0 (.F0 WD) (.A0 (.L6 .n6 (.F0 fO) (kI 1)) .B0))))) (.V1 (.F0 VD) (.K7 (.S1 .eq (.F0 E3) (kS fF)) (kS fF) (.K7 (.D8 (.S1 .eq (.F0 E3) (kS xK)) (.S1 .eq (.F0 VD) (kS jM))) (kS xK) (.F0 VD))) (.K3 (.S1 .eq (.F0 VD) (kS fF)) .cB .B0 .B0))) (.K3 (.S1 .ne (.F0 VD) (kS fF)) (.B6 (.F4 .VI UQ (.F0 mJ) (.A0 (.Q0 (.A0 (.F0 VD) (.A0 (.Z1 nJ (.F0 zB)) (.A0 (.F0 jA) .B0)))) .B0)) .B0) .B0 .B0))) .B0 .B0) (.U1 (.F0 mJ))))
def gE0:S:=(.K3 (.S1 .gt (.F0 fO) (kI 12)) (.kC (.K2 (.v0 (.Y0 76)) (.A0 (.L6 .n6 (kS HD0) (.F0 y9)) .B0))) .B0 (.K3 (.S1 .rE (.F4 .K5 p20 (.F0 Q2) (.A0 (.F0 y9) (.A0 (.F0 W3) .B0))) (.v0 .H0)) (.U1 (kS jM)) .B0 (.K3 (.S1 .eq (.w0 (.F0 W3) (kI 0)) (kS wK)) (.U1 (kS xK)) .B0 (.V1 (.F0 tH) (.K7 (.S1 .eq (.K2 (.v0 (.Y0 113)) (.A0 (.F0 y9) .B0)) (kS ID0)) (.K2 (.v0 (.Y0 132)) (.A0 (.F0 W3) .B0)) (.v0 .H0)) (.K3 (.S1 .rE (.F0 tH) (.v0 .H0)) (.V1 (.F0 Wr) (.J7 (.F4 .K5 jb (.F0 Q2) (.A0 (.F0 y9) (.A0 (.Q0 .B0) (.A0 (.F0 WD) (.A0 (.L6 .n6 (.F0 fO) (kI 1)) .B0))))) (.F0 WD) .B0 (.T4 (.F0 tH))) (.U1 (.K7 (.S1 .f8 (kS fF) (.F0 Wr)) (kS fF) (.K7 (.S1 .f8 (kS xK) (.F0 Wr)) (kS xK) (kS jM))))) .B0 (.V1 (.F0 mJ) (.F4 .K5 Xr (.F0 Q2) (.A0 (.F0 y9) (.A0 (.F0 lM) (.A0 (.F0 W3) (.A0 (.F0 fO) .B0))))) (.K3 (.S1 .eq (.F0 mJ) (.M1 .B0)) (.U1 (kS fF)) .B0 (.U1 (.K7 (.S1 .f8 (kS jM) (.J7 (.F0 VD) (.Q0 (.A0 (.F0 VD) (.A0 (.F0 nJ) (.A0 (.F0 jA) .B0)))) .B0 (.T4 (.F0 mJ)))) (kS jM) (kS xK))))))))))
def hE0:S:=(.V1 (.F0 T8) (.w0 (.F0 E3) (kI 0)) (.K3 (.S1 .eq (.F0 T8) (kS rH)) (.U1 (.Q0 (.A0 (.w0 (.F0 E3) (kI 3)) .B0))) .B0 (.K3 (.or (.S1 .eq (.F0 T8) (kS KA)) (.S1 .eq (.F0 T8) (kS TQ))) (.U1 (.Q0 (.A0 (.w0 (.F0 E3) (kI 1)) .B0))) .B0 (.K3 (.S1 .eq (.F0 T8) (kS SE)) (.U1 (.w0 (.F0 E3) (kI 1))) .B0 (.U1 (.K7 (.S1 .eq (.F0 T8) (kS Z9)) (.w0 (.F0 E3) (kI 3)) (.Q0 .B0)))))))
def iE0:S:=(.V1 (.F0 T8) (.w0 (.F0 E3) (kI 0)) (.K3 (.S1 .eq (.F0 T8) (kS rH)) (.U1 (.Q0 (.A0 (kS rH) (.A0 (.w0 (.F0 E3) (kI 1)) (.A0 (.w0 (.F0 E3) (kI 2)) (.A0 (.w0 (.F0 tH) (kI 0)) .B0)))))) .B0 (.K3 (.S1 .eq (.F0 T8) (kS KA)) (.U1 (.Q0 (.A0 (kS KA) (.A0 (.w0 (.F0 tH) (kI 0)) .B0)))) .B0 (.K3 (.S1 .eq (.F0 T8) (kS TQ)) (.U1 (.Q0 (.A0 (kS TQ) (.A0 (.w0 (.F0 tH) (kI 0)) (.A0 (.w0 (.F0 E3) (kI 2)) .B0))))) .B0 (.K3 (.S1 .eq (.F0 T8) (kS SE)) (.U1 (.Q0 (.A0 (kS SE) (.A0 (.mk .Q0 (.T4 (.F0 tH))) .B0)))) .B0 (.U1 (.K7 (.S1 .eq (.F0 T8) (kS Z9)) (.Q0 (.A0 (kS Z9) (.A0 (.w0 (.F0 E3) (kI 1)) (.A0 (.w0 (.F0 E3) (kI 2)) (.A0 (.mk .Q0 (.T4 (.F0 tH))) .B0))))) (.F0 E3))))))))
def jE0:S:=(.K3 (.S1 .eq (.w0 (.F0 E3) (kI 0)) (kS P7)) (.U1 (.F4 .o9 Ur (.F0 WC) (.A0 (.w0 (.F0 E3) (kI 1)) (.A0 (.F0 E3) .B0)))) .B0 (.U1 (.K2 (.v0 (.Y0 193)) (.A0 (.F0 E3) (.A0 (.J7 (.K2 (.v0 (.Y0 198)) (.A0 (.F0 WD) (.A0 (.F0 WC) .B0))) (.F0 WD) .B0 (.T4 (.K2 (.v0 (.Y0 186)) (.A0 (.F0 E3) .B0)))) .B0)))))
def kE0:S:=(.K3 (.S1 .eq (.w0 (.F0 E3) (kI 0)) (kS rH)) (.V1 (.F0 E3) (.Q0 (.A0 (kS rH) (.A0 (.K2 (.F0 Ci) (.A0 (.w0 (.F0 E3) (kI 1)) .B0)) (.A0 (.w0 (.F0 E3) (kI 2)) (.A0 (.w0 (.F0 E3) (kI 3)) .B0))))) .B0) (.K3 (.S1 .eq (.w0 (.F0 E3) (kI 0)) (kS Z9)) (.V1 (.F0 E3) (.Q0 (.A0 (kS Z9) (.A0 (.w0 (.F0 E3) (kI 1)) (.A0 (.mk .Q0 (.T4 (.J7 (.K2 (.F0 Ci) (.A0 (.F0 pJ) .B0)) (.F0 pJ) .B0 (.T4 (.w0 (.F0 E3) (kI 2)))))) (.A0 (.w0 (.F0 E3) (kI 3)) .B0))))) .B0) .B0 .B0) (.U1 (.K2 (.v0 (.Y0 193)) (.A0 (.F0 E3) (.A0 (.J7 (.K2 (.v0 (.Y0 203)) (.A0 (.F0 WD) (.A0 (.F0 Ci) .B0))) (.F0 WD) .B0 (.T4 (.K2 (.v0 (.Y0 186)) (.A0 (.F0 E3) .B0)))) .B0)))))
def lE0:S:=(.U1 (.v0 .H0))
def mE0:S:=(.U1 (.K2 (.v0 (.Y0 203)) (.A0 (.F0 E3) (.A0 (.v0 (.Y0 210)) .B0))))
def nE0:S:=(.K3 (.S1 .iG (.F0 pJ) (.v0 .H0)) (.U1 (.v0 (.Z0 1))) .B0 (.U1 (.K7 .M2 (.F0 pJ) (.L6 .n6 (kS JD0) (.b1 .Z0 (.F0 pJ))))))
def oE0:S:=(.V1 (.F0 T8) (.w0 (.F0 E3) (kI 0)) (.K3 (.or (.S1 .eq (.F0 T8) (kS lB)) (.S1 .eq (.F0 T8) (kS P7))) (.U1 (.w0 (.F0 E3) (kI 1))) .B0 (.K3 (.S1 .eq (.F0 T8) (kS gJ)) (.U1 (kS gJ)) .B0 (.K3 (.S1 .eq (.F0 T8) (kS gb)) (.U1 (kS KD0)) .B0 (.K3 (.or (.S1 .eq (.F0 T8) (kS wK)) (.S1 .eq (.F0 T8) (kS iM))) (.U1 (kS LD0)) .B0 (.V1 (.F0 IB) (.J7 (.K2 (.v0 (.Y0 229)) (.A0 (.F0 WD) .B0)) (.F0 WD) .B0 (.T4 (.K2 (.v0 (.Y0 186)) (.A0 (.F0 E3) .B0)))) (.K3 (.S1 .eq (.F0 T8) (kS rH)) (.V1 (.F0 pJ) (.K2 (.v0 (.Y0 224)) (.A0 (.w0 (.F0 E3) (kI 1)) .B0)) (.U1 (.L6 .n6 (.L6 .n6 (.L6 .n6 (kS MD0) (.K7 (.S1 .ne (.F0 pJ) (.v0 (.Z0 1))) (.L6 .n6 (.F0 pJ) (kS ND0)) (.v0 (.Z0 1)))) (.K7 (.w0 (.F0 E3) (kI 2)) (kS OD0) (.v0 (.Z0 1)))) (.w0 (.F0 IB) (kI 0))))) .B0 (.K3 (.S1 .eq (.F0 T8) (kS KA)) (.U1 (.L6 .n6 (.L6 .n6 (kS PD0) (.w0 (.F0 IB) (kI 0))) (kS q20))) .B0 (.K3 (.S1 .eq (.F0 T8) (kS TQ)) (.U1 (.L6 .n6 (.L6 .n6 (.L6 .n6 (.L6 .n6 (kS QD0) (.w0 (.F0 IB) (kI 0))) (kS RD0)) (.b1 .Z0 (.w0 (.F0 E3) (kI 2)))) (kS SD0))) .B0 (.K3 (.S1 .eq (.F0 T8) (kS SE)) (.U1 (.K7 (.S1 .eq (.b1 .Z5 (.F0 IB)) (kI 1)) (.L6 .n6 (.L6 .n6 (kS r20) (.w0 (.F0 IB) (kI 0))) (kS TD0)) (.L6 .n6 (.L6 .n6 (kS r20) (.F4 .sP Yr (kS s20) (.A0 (.F0 IB) .B0))) (kS UD0)))) .B0 (.V1 (.F0 IB) (.L6 .n6 (.J7 (.K2 (.v0 (.Y0 224)) (.A0 (.F0 pJ) .B0)) (.F0 pJ) (.A0 (.S1 .rE (.F0 pJ) (.v0 .H0)) .B0) (.T4 (.w0 (.F0 E3) (kI 2)))) (.F0 IB)) (.U1 (.L6 .n6 (.w0 (.F0 E3) (kI 1)) (.K7 (.S1 .ne (.F0 IB) (.M1 .B0)) (.L6 .n6 (.L6 .n6 (kS VD0) (.F4 .sP Yr (kS s20) (.A0 (.F0 IB) .B0))) (kS q20)) (.v0 (.Z0 1))))))))))))))))
def pE0:S:=(.U1 (.w0 (.w0 (.Z1 iO (.w0 (.Z1 nM (.F0 c6)) (.w0 (.F0 E3) (kI 1)))) (.F0 TV)) (kI 2)))
def qE0:S:=(.K3 (.S1 .eq (.w0 (.F0 E3) (kI 0)) (kS SE)) (.U1 (.J7 (.Q0 (.A0 (.b1 .Z0 (.F0 bS)) (.A0 (.F0 WD) .B0))) (.Q0 (.A0 (.F0 bS) (.A0 (.F0 WD) .B0))) .B0 (.wX (.w0 (.F0 E3) (kI 1))))) .B0 (.K3 (.S1 .ne (.w0 (.F0 E3) (kI 0)) (kS Z9)) (.U1 (.M1 .B0)) .B0 (.V1 (.F0 Z9) (.w0 (.Z1 nM (.F0 c6)) (.w0 (.F0 E3) (kI 1))) (.V1 (.F0 UA) (.mk .H2 (.pK (.Z1 Q7 (.F0 Z9)) (.w0 (.F0 E3) (kI 3)))) (.V1 (.F0 VE) (.mk .H2 (.pK (.Z1 VE (.F0 Z9)) (.w0 (.F0 E3) (kI 2)))) (.p_ t20 (.U1 (.J7 (.Q0 (.A0 (.F0 I6) (.A0 (.K2 (.v0 (.Y0 198)) (.A0 (.K2 (.v0 (.Y0 203)) (.A0 (.F0 WD) (.A0 (.F0 t20) .B0))) (.A0 (.F0 UA) .B0))) .B0))) (.Q0 (.A0 (.F0 I6) (.A0 (.F0 WD) .B0))) .B0 (.T4 (.K2 (.v0 (.Y0 236)) (.A0 (.F0 E3) (.A0 (.F0 TV) (.A0 (.F0 c6) .B0)))))))))))))
def rE0:S:=(.U1 (.mk .Q0 (.T4 (.J7 (.F0 I6) (.Q0 (.A0 (.F0 I6) (.A0 (.F0 VE) (.A0 (.F0 UA) .B0)))) .B0 (.T4 (.F0 N9))))))
def sE0:S:=(.K3 (.D8 (.S1 .ne (.F0 E3) (.Q0 .B0)) (.S1 .ne (.b1 .Z5 (.F0 E3)) (.b1 .Z5 (.F0 Q7)))) (.kC (.K2 (.v0 (.Y0 64)) (.A0 (kS WD0) (.A0 (.F0 G6) .B0)))) .B0 (.V1 (.F0 jA) (.H2 .B0) (.RE (.F0 Di) (.aa (.b1 .Z5 (.F0 Q7))) (.V1 (.w0 (.F0 jA) (.w0 (.w0 (.F0 Q7) (.F0 Di)) (kI 0))) (.K7 (.S1 .eq (.F0 E3) (.Q0 .B0)) (.F4 .K5 uH (.F0 R4) .B0) (.F4 .K5 Ei (.F0 R4) (.A0 (.w0 (.F0 E3) (.F0 Di)) .B0))) .B0) (.U1 (.F0 jA)))))
def tE0:S:=(.RE (.Q0 (.A0 (.F0 I6) (.A0 (.F0 tE) .B0))) (.T4 (.F0 Q7)) (.RE (.F0 y9) (.T4 (.F0 tE)) (.B6 (.F4 .VI UQ (.Z1 Fi (.F0 R4)) (.A0 (.Q0 (.A0 (.F0 y9) (.A0 (.Q0 .B0) (.A0 (.w0 (.F0 XD) (.F0 I6)) (.A0 (.F0 G6) .B0))))) .B0)) .B0) .B0) .B0)
def uE0:S:=(.RE (.Q0 (.A0 (.F0 y9) (.A0 (.F0 lM) (.A0 (.F0 W3) (.A0 (.F0 G6) .B0))))) (.T4 (.Z1 Fi (.F0 R4))) (.V1 (.F0 qJ) (.mk .Q0 (.T4 (.J7 (.F4 .K5 iF (.F0 R4) (.A0 (.F0 RY) .B0)) (.F0 RY) .B0 (.T4 (.F0 lM))))) (.V1 (.F0 E3) (.F4 .K5 jb (.K2 (.v0 (.Y0 173)) (.A0 (.Z1 c6 (.F0 R4)) (.A0 (.Z1 lJ (.F0 R4)) .B0))) (.A0 (.F0 y9) (.A0 (.F0 qJ) (.A0 (.F4 .K5 iF (.F0 R4) (.A0 (.F0 W3) .B0)) (.A0 (kI 0) .B0))))) (.K3 (.S1 .ne (.F0 E3) (kS jM)) (.kC (.K2 (.v0 (.Y0 76)) (.A0 (.L6 .n6 (kS XD0) (.F0 y9)) (.A0 (.F0 G6) .B0)))) .B0 .B0))) .B0)
def vE0:S:=(.V1 (.F0 LG) (.iE (.F0 N9) (.v0 .H0) (.v0 (.j0 (.PB 0)))) (.K3 (.S1 .eq (.F0 LG) (.Q0 .B0)) (.U1 (.v0 .H0)) .B0 (.V1 (.F0 Gi) (.w0 (.w0 (.F0 LG) (kI 0)) (kI 0)) (.K3 (.D8 (.S1 .eq (.b1 .Z5 (.F0 LG)) (kI 1)) (.or (.S1 .eq (.F0 Gi) (kS vK)) (.or (.S1 .f8 (.F0 Gi) (.Z1 lJ (.F0 R4))) (.S1 .f8 (.F0 Gi) (.v0 (.Q0 (.A0 (.Z0 gJ) (.A0 (.Z0 kh) (.A0 (.Z0 mh) (.A0 (.Z0 nh) (.A0 (.Z0 oh) (.A0 (.Z0 tC) (.A0 (.Z0 qh) (.A0 (.Z0 uh) (.A0 (.Z0 vh) (.A0 (.Z0 wh) .B0)))))))))))))))) (.U1 (.Q0 (.A0 (kS yK) (.A0 (.F4 .K5 Ei (.F0 R4) (.A0 (.Q0 (.A0 (kS u5) (.A0 (.F0 pB) (.A0 (.F0 LG) .B0)))) .B0)) .B0)))) .B0 (.XO (.V1 (.F0 u5) (.F4 .K5 qb (.Z1 jF (.Z1 c6 (.F0 R4))) (.A0 (.Z1 uE (.F0 R4)) (.A0 (.K2 (.v0 (.Y0 247)) (.A0 (.F0 LG) .B0)) (.A0 (kS yK) .B0)))) .B0) (.oU 52 .H0 .B0) (.K3 (.S1 .f8 (.F0 u5) (.Z1 tE (.Z1 c6 (.F0 R4)))) (.U1 (.Q0 (.A0 (kS y9) (.A0 (.F0 u5) .B0)))) .B0 (.K3 (.S1 .f8 (.F0 u5) (.Z1 nM (.Z1 c6 (.F0 R4)))) (.U1 (.Q0 (.A0 (kS yK) (.A0 (.F4 .K5 Zr (.F0 R4) (.A0 (.F0 u5) (.A0 (.w0 (.w0 (.F0 LG) (.v0 (.j0 (.PB 0)))) (kI 2)) .B0))) .B0)))) .B0 (.U1 (.v0 .H0)))))))))
def wE0:S:=(.V1 (.Z1 gS (.F0 Q2)) (.F0 gS) (.V1 (.Z1 qD (.F0 Q2)) (.F0 qD) (.V1 (.Z1 iS (.F0 Q2)) (.F0 iS) .B0)))
def xE0:S:=(.V1 (.F0 qD) (.J7 (.K2 (.v0 (.Y0 217)) (.A0 (.K2 (.v0 (.Y0 198)) (.A0 (.F0 W3) (.A0 (.F0 XD) .B0))) .B0)) (.F0 W3) .B0 (.T4 (.Z1 qD (.F0 vE)))) (.U1 (.K2 (.v0 (.Y0 290)) (.A0 (.F0 gS) (.A0 (.F0 qD) (.A0 (.K2 (.v0 (.Y0 217)) (.A0 (.K2 (.v0 (.Y0 198)) (.A0 (.Z1 iS (.F0 vE)) (.A0 (.F0 XD) .B0))) .B0)) .B0))))))
def yE0:S:=(.V1 (.F0 vE) (.w0 (.Z1 jS (.Z1 c6 (.F0 R4))) (.F0 u5)) (.V1 (.F0 XD) (.K2 (.v0 (.Y0 254)) (.A0 (.F0 R4) (.A0 (.Z1 Q7 (.F0 vE)) (.A0 (.F0 E3) (.A0 (.F0 G6) .B0))))) (.B6 (.K2 (.v0 (.Y0 261)) (.A0 (.F0 R4) (.A0 (.Z1 Q7 (.F0 vE)) (.A0 (.F0 XD) (.A0 (.F0 G6) .B0))))) (.U1 (.K2 (.v0 (.Y0 299)) (.A0 (.F0 R4) (.A0 (.F0 vE) (.A0 (.F0 XD) (.A0 (.Q0 (.A0 (kS lS) (.A0 (.F0 u5) (.A0 (.mk .Q0 (.T4 (.J7 (.w0 (.F0 XD) (.F0 I6)) (.Q0 (.A0 (.F0 I6) (.A0 (.F0 tE) .B0))) .B0 (.T4 (.Z1 Q7 (.F0 vE)))))) .B0)))) .B0)))))))))
def zE0:S:=(.V1 (.F0 vE) (.w0 (.Z1 jS (.Z1 c6 (.F0 R4))) (.F0 u5)) (.V1 (.F0 XD) (.K2 (.v0 (.Y0 254)) (.A0 (.F0 R4) (.A0 (.Z1 Q7 (.F0 zB)) (.A0 (.Q0 .B0) (.A0 (.F0 G6) .B0))))) (.B6 (.F4 .K5 SY (.F0 R4) (.A0 (.K2 (.v0 (.Y0 217)) (.A0 (.K2 (.v0 (.Y0 198)) (.A0 (.Z1 KG (.F0 zB)) (.A0 (.F0 XD) .B0))) .B0)) (.A0 (.F0 W3) (.A0 (.F0 G6) .B0)))) (.B6 (.F4 .JF br (.F0 XD) (.A0 (.K2 (.v0 (.Y0 254)) (.A0 (.F0 R4) (.A0 (.iE (.Z1 Q7 (.F0 vE)) (.b1 .Z5 (.Z1 Q7 (.F0 zB))) (.v0 .H0)) (.A0 (.F0 E3) (.A0 (.F0 G6) .B0))))) .B0)) (.B6 (.K2 (.v0 (.Y0 261)) (.A0 (.F0 R4) (.A0 (.Z1 Q7 (.F0 vE)) (.A0 (.F0 XD) (.A0 (.F0 G6) .B0))))) (.V1 (.F0 gS) (.Q0 (.A0 (kS lS) (.A0 (.F0 u5) (.A0 (.mk .Q0 (.T4 (.J7 (.w0 (.F0 XD) (.F0 I6)) (.Q0 (.A0 (.F0 I6) (.A0 (.F0 tE) .B0))) .B0 (.T4 (.Z1 Q7 (.F0 vE)))))) .B0)))) (.V1 (.w0 (.F0 XD) (kS vK)) (.F0 W3) (.U1 (.K2 (.v0 (.Y0 299)) (.A0 (.F0 R4) (.A0 (.F0 vE) (.A0 (.F0 XD) (.A0 (.F0 gS) .B0)))))))))))))
def AF0:S:=(.V1 (.F0 qJ) (.mk .Q0 (.T4 (.J7 (.F4 .K5 iF (.F0 R4) (.A0 (.F0 RY) .B0)) (.F0 RY) .B0 (.T4 (.F0 lM))))) (.V1 (.F0 W3) (.F4 .K5 iF (.F0 R4) (.A0 (.F0 W3) .B0)) (.K3 (.or (.S1 .eq (.F0 qJ) (.Q0 .B0)) (.S1 .f8 (.w0 (.F0 W3) (kI 0)) (.Q0 (.A0 (kS wK) (.A0 (kS P7) .B0))))) (.U1 (.v0 .H0)) .B0 (.V1 (.F0 mJ) (.F4 .K5 Xr (.K2 (.v0 (.Y0 173)) (.A0 (.Z1 c6 (.F0 R4)) (.A0 (.Z1 lJ (.F0 R4)) .B0))) (.A0 (.F0 y9) (.A0 (.F0 qJ) (.A0 (.F0 W3) (.A0 (kI 0) .B0))))) (.K3 (.S1 .eq (.b1 .Z5 (.F0 mJ)) (kI 1)) (.V1 (.Q0 (.A0 (.F0 zB) (.A0 (.F0 jA) .B0))) (.Q0 (.A0 (.w0 (.Z1 kM (.Z1 c6 (.F0 R4))) (.w0 (.w0 (.F0 mJ) (kI 0)) (kI 1))) (.A0 (.mk .H2 (.T4 (.w0 (.w0 (.F0 mJ) (kI 0)) (kI 2)))) .B0))) (.RE (.Q0 (.A0 (.F0 I6) (.A0 (.F0 tE) .B0))) (.T4 (.Z1 Q7 (.F0 zB))) (.B6 (.F4 .LU u20 (.F0 jA) (.A0 (.F0 I6) (.A0 (.F4 .K5 uH (.F0 R4) .B0) .B0))) .B0) (.RE (.Q0 (.A0 (.F0 RY) (.A0 (.F0 E3) .B0))) (.pK (.F0 qJ) (.Z1 dS (.F0 zB))) (.B6 (.F4 .K5 SY (.F0 R4) (.A0 (.F0 RY) (.A0 (.K2 (.v0 (.Y0 217)) (.A0 (.K2 (.v0 (.Y0 198)) (.A0 (.F0 E3) (.A0 (.F0 jA) .B0))) .B0)) (.A0 (.F0 G6) .B0)))) .B0) .B0))) .B0 .B0)))))
def BF0:S:=(.V1 (.F0 O9) (.w0 (.Z1 tE (.Z1 c6 (.F0 R4))) (.F0 y9)) (.V1 (.F0 vE) (.w0 (.Z1 pM (.F0 O9)) (.F0 I6)) (.V1 (.F0 LG) (.L6 .n6 (kI 1) (.b1 .Z5 (.Z1 Q7 (.F0 O9)))) (.V1 (.F0 XD) (.K2 (.v0 (.Y0 254)) (.A0 (.F0 R4) (.A0 (.iE (.Z1 Q7 (.F0 vE)) (kI 1) (.F0 LG)) (.A0 (.Q0 .B0) (.A0 (.F0 G6) .B0))))) (.B6 (.F4 .JF br (.F0 XD) (.A0 (.K2 (.v0 (.Y0 254)) (.A0 (.F0 R4) (.A0 (.iE (.Z1 Q7 (.F0 vE)) (.F0 LG) (.v0 .H0)) (.A0 (.F0 E3) (.A0 (.F0 G6) .B0))))) .B0)) (.B6 (.K2 (.v0 (.Y0 261)) (.A0 (.F0 R4) (.A0 (.iE (.Z1 Q7 (.F0 vE)) (kI 1) (.v0 .H0)) (.A0 (.F0 XD) (.A0 (.F0 G6) .B0))))) (.V1 (.F0 UA) (.mk .Q0 (.T4 (.J7 (.w0 (.F0 XD) (.F0 P7)) (.Q0 (.A0 (.F0 P7) (.A0 (.F0 tE) .B0))) .B0 (.T4 (.iE (.Z1 Q7 (.F0 vE)) (kI 1) (.v0 .H0)))))) (.V1 (.w0 (.F0 XD) (kS vK)) (.F0 W3) (.V1 (.F0 lM) (.iE (.F0 UA) (.v0 .H0) (.b1 .Z5 (.Z1 Q7 (.F0 O9)))) (.B6 (.K2 (.v0 (.Y0 314)) (.A0 (.F0 R4) (.A0 (.F0 y9) (.A0 (.F0 lM) (.A0 (.F0 W3) (.A0 (.F0 G6) .B0)))))) (.B6 (.F4 .VI UQ (.Z1 Fi (.F0 R4)) (.A0 (.Q0 (.A0 (.F0 y9) (.A0 (.F0 lM) (.A0 (.F0 W3) (.A0 (.F0 G6) .B0))))) .B0)) (.U1 (.K2 (.v0 (.Y0 299)) (.A0 (.F0 R4) (.A0 (.F0 vE) (.A0 (.F0 XD) (.A0 (.Q0 (.A0 (kS mS) (.A0 (.F0 y9) (.A0 (.F0 I6) (.A0 (.F0 W3) (.A0 (.F0 UA) .B0)))))) .B0)))))))))))))))))
def CF0:S:=(.V1 (.F0 jA) (.M1 .B0) (.RE (.F0 zB) (.T4 (.Z1 kM (.Z1 c6 (.F0 R4)))) (.K3 (.D8 (.S1 .iG (.Z1 y9 (.F0 zB)) (.v0 .H0)) (.D8 (.S1 .f8 (.F0 I6) (.Z1 pM (.F0 zB))) (.S1 .ne (.w0 (.K2 (.v0 (.Y0 125)) (.A0 (.F0 zB) (.A0 (.Q0 .B0) (.A0 (.F0 W3) .B0)))) (kI 0)) (kS fF)))) (.B6 (.F4 .VI UQ (.F0 jA) (.A0 (.F0 zB) .B0)) .B0) .B0 .B0) (.U1 (.F0 jA))))
def DF0:S:=(.V1 (.F0 w20) (.K2 (.v0 (.Y0 173)) (.A0 (.Z1 c6 (.F0 R4)) (.A0 (.Z1 lJ (.F0 R4)) .B0))) (.V1 (.F0 jA) (.M1 .B0) (.RE (.F0 u5) (.T4 (.b1 .Ym (.Z1 tE (.Z1 c6 (.F0 R4))))) (.K3 (.D8 (.S1 .f8 (.F0 I6) (.Z1 pM (.w0 (.Z1 tE (.Z1 c6 (.F0 R4))) (.F0 u5)))) (.S1 .ne (.F4 .K5 jb (.F0 w20) (.A0 (.F0 u5) (.A0 (.Q0 .B0) (.A0 (.F0 W3) (.A0 (kI 0) .B0))))) (kS fF))) (.B6 (.F4 .VI UQ (.F0 jA) (.A0 (.F0 u5) .B0)) .B0) .B0 .B0) (.U1 (.F0 jA)))))
def EF0:S:=(.V1 (.F0 W3) (.F4 .K5 iF (.F0 R4) (.A0 (.F0 W3) .B0)) (.V1 (.F0 kM) (.K2 (.v0 (.Y0 326)) (.A0 (.F0 R4) (.A0 (.F0 W3) (.A0 (.F0 I6) .B0)))) (.K3 (.S1 .eq (.b1 .Z5 (.F0 kM)) (kI 1)) (.U1 (.K2 (.v0 (.Y0 309)) (.A0 (.F0 R4) (.A0 (.w0 (.F0 kM) (kI 0)) (.A0 (.w0 (.Z1 pM (.w0 (.F0 kM) (kI 0))) (.F0 I6)) (.A0 (.F0 W3) (.A0 (.F0 E3) (.A0 (.F0 G6) .B0)))))))) .B0 (.K3 (.S1 .gt (.b1 .Z5 (.F0 kM)) (kI 1)) (.kC (.K2 (.v0 (.Y0 64)) (.A0 (.L6 .n6 (kS YD0) (.F0 I6)) (.A0 (.F0 G6) .B0)))) .B0 (.V1 (.F0 tE) (.K2 (.v0 (.Y0 333)) (.A0 (.F0 R4) (.A0 (.F0 W3) (.A0 (.F0 I6) .B0)))) (.K3 (.S1 .eq (.b1 .Z5 (.F0 tE)) (kI 1)) (.U1 (.K2 (.v0 (.Y0 319)) (.A0 (.F0 R4) (.A0 (.w0 (.F0 tE) (kI 0)) (.A0 (.F0 I6) (.A0 (.F0 W3) (.A0 (.F0 E3) (.A0 (.F0 G6) .B0)))))))) .B0 (.kC (.K2 (.v0 (.Y0 64)) (.A0 (.L6 .n6 (.K7 (.S1 .ne (.F0 tE) (.M1 .B0)) (kS ZD0) (kS aD0)) (.F0 I6)) (.A0 (.F0 G6) .B0))))))))))
def FF0:S:=(.V1 (.Q0 (.A0 (.F0 I6) (.A0 (.F0 VE) (.A0 (.F0 E3) .B0)))) (.w0 (.F0 N9) (.v0 (.j0 (.PB 0)))) (.V1 (.F0 LG) (.K2 (.v0 (.Y0 273)) (.A0 (.F0 R4) (.A0 (.F0 pB) (.A0 (.F0 N9) .B0)))) (.K3 (.D8 (.S1 .rE (.F0 LG) (.v0 .H0)) (.S1 .eq (.w0 (.F0 LG) (kI 0)) (kS y9))) (.K3 (.S1 .rI (.F0 I6) (.Z1 pM (.w0 (.Z1 tE (.Z1 c6 (.F0 R4))) (.w0 (.F0 LG) (kI 1))))) (.kC (.K2 (.v0 (.Y0 52)) (.A0 (.L6 .n6 (kS bD0) (.F0 I6)) (.A0 (.F0 pB) .B0)))) .B0 (.U1 (.K2 (.v0 (.Y0 319)) (.A0 (.F0 R4) (.A0 (.w0 (.F0 LG) (kI 1)) (.A0 (.F0 I6) (.A0 (.F4 .K5 uH (.F0 R4) .B0) (.A0 (.F0 E3) (.A0 (.F0 pB) .B0))))))))) .B0 (.K3 (.S1 .rE (.F0 LG) (.v0 .H0)) (.U1 (.K2 (.v0 (.Y0 340)) (.A0 (.F0 R4) (.A0 (.w0 (.F0 LG) (kI 1)) (.A0 (.F0 I6) (.A0 (.F0 E3) (.A0 (.F0 pB) .B0))))))) .B0 (.V1 (.F0 u5) (.F4 .K5 qb (.Z1 jF (.Z1 c6 (.F0 R4))) (.A0 (.Z1 uE (.F0 R4)) (.A0 (.K2 (.v0 (.Y0 247)) (.A0 (.F0 N9) .B0)) (.A0 (kS jr) .B0)))) (.K3 (.S1 .rI (.F0 u5) (.Z1 jS (.Z1 c6 (.F0 R4)))) (.kC (.K2 (.v0 (.Y0 64)) (.A0 (.L6 .n6 (kS cD0) (.F0 u5)) (.A0 (.F0 pB) .B0)))) .B0 (.U1 (.K2 (.v0 (.Y0 304)) (.A0 (.F0 R4) (.A0 (.F0 u5) (.A0 (.F0 E3) (.A0 (.F0 pB) .B0))))))))))))
def GF0:S:=(.K3 (.S1 .ne (.b1 .Z5 (.F0 qD)) (.b1 .Z5 (.F0 WE))) (.kC (.K2 (.v0 (.Y0 64)) (.A0 (.L6 .n6 (.b1 .Z0 (.b1 .Z5 (.F0 qD))) (kS dD0)) (.A0 (.F0 pB) .B0)))) .B0 (.U1 (.mk .Q0 (.T4 (.J7 (.F4 .K5 x20 (.F0 R4) (.A0 (.F4 .K5 kr (.F0 R4) (.A0 (.F0 TY) (.A0 (.F0 W3) .B0))) (.A0 (.F0 W3) .B0))) (.Q0 (.A0 (.F0 TY) (.A0 (.F0 W3) .B0))) .B0 (.pK (.F0 WE) (.F0 qD)))))))
def HF0:S:=(.U1 (.w0 (.w0 (.Z1 iO (.w0 (.Z1 nM (.Z1 c6 (.F0 R4))) (.F0 u5))) (.F0 nJ)) (kI 1)))
def IF0:S:=(.V1 (.Q0 (.A0 (.F0 T8) (.A0 (.F0 u5) (.A0 (.F0 nJ) (.A0 (.F0 E3) .B0))))) (.F0 pS) (.K3 (.S1 .ne (.K2 (.v0 (.Y0 359)) (.A0 (.F0 R4) (.A0 (.F0 u5) (.A0 (.F0 nJ) .B0)))) (kS SE)) (.kC (.K2 (.v0 (.Y0 64)) (.A0 (kS eD0) (.A0 (.F0 pB) .B0)))) .B0 (.V1 (.F0 W3) (.F4 .K5 Zr (.F0 R4) (.A0 (.F0 u5) (.A0 (.F0 E3) .B0))) (.V1 (.F0 qD) (.J7 (.K2 (.v0 (.Y0 217)) (.A0 (.F0 WD) .B0)) (.Q0 (.A0 (.F0 I6) (.A0 (.F0 WD) .B0))) .B0 (.T4 (.K2 (.v0 (.Y0 241)) (.A0 (.F0 W3) (.A0 (.F0 nJ) (.A0 (.Z1 c6 (.F0 R4)) .B0)))))) (.U1 (.Q0 (.A0 (kS Z9) (.A0 (.F0 W3) (.A0 (.F0 pB) (.A0 (.F0 nJ) (.A0 (.mk .Q0 (.wX (.K2 (.v0 (.Y0 352)) (.A0 (.F0 R4) (.A0 (.F0 pB) (.A0 (.F0 qD) (.A0 (.F0 WE) .B0))))))) .B0)))))))))))
def JF0:S:=(.K3 (.S1 .ne (.b1 .Z5 (.F0 WE)) (kI 1)) (.kC (.K2 (.v0 (.Y0 64)) (.A0 (kS fD0) (.A0 (.F0 pB) .B0)))) .B0 (.V1 (.F0 IB) (.K7 (.S1 .iG (.F0 tG) (.v0 .H0)) (.v0 .H0) (.F4 .K5 iF (.F0 R4) (.A0 (.F0 tG) .B0))) (.V1 (.F0 i6) (.F4 .K5 kr (.F0 R4) (.A0 (.w0 (.F0 WE) (kI 0)) (.A0 (.K7 (.D8 (.S1 .rE (.F0 IB) (.v0 .H0)) (.S1 .eq (.w0 (.F0 IB) (kI 0)) (kS KA))) (.w0 (.F0 IB) (kI 1)) (.v0 .H0)) .B0))) (.U1 (.Q0 (.A0 (kS KA) (.A0 (.Q0 (.A0 (kS KA) (.A0 (.w0 (.F0 i6) (kI 1)) .B0))) (.A0 (.F0 pB) (.A0 (.F0 i6) .B0)))))))))
def KF0:S:=(.V1 (.Q0 (.A0 (.F0 T8) (.A0 (.F0 pB) (.A0 (.F0 VQ) (.A0 (.F0 WE) .B0))))) (.F0 sI) (.K3 (.S1 .ne (.w0 (.F0 VQ) (kI 0)) (kS u5)) (.kC (.K2 (.v0 (.Y0 64)) (.A0 (kS gD0) (.A0 (.F0 pB) .B0)))) .B0 (.V1 (.F0 N9) (.w0 (.F0 VQ) (kI 2)) (.K3 (.S1 .eq (.K2 (.v0 (.Y0 247)) (.A0 (.F0 N9) .B0)) (.Q0 (.A0 (kS Hi) (.A0 (kS y20) .B0)))) (.U1 (.K2 (.v0 (.Y0 371)) (.A0 (.F0 R4) (.A0 (.F0 pB) (.A0 (.F0 WE) (.A0 (.F0 A30) .B0)))))) .B0 (.V1 (.F0 pS) (.F4 .K5 B30 (.F0 R4) (.A0 (.F0 N9) (.A0 (.F0 pB) .B0))) (.K3 (.D8 (.S1 .rE (.F0 pS) (.v0 .H0)) (.S1 .f8 (.w0 (.F0 pS) (kI 0)) (.Q0 (.A0 (kS TV) (.A0 (kS yb) .B0))))) (.U1 (.K2 (.v0 (.Y0 364)) (.A0 (.F0 R4) (.A0 (.F0 pB) (.A0 (.F0 pS) (.A0 (.F0 WE) .B0)))))) .B0 (.V1 (.F0 Ii) (.K2 (.v0 (.Y0 347)) (.A0 (.F0 R4) (.A0 (.F0 pB) (.A0 (.F0 N9) .B0)))) (.U1 (.Q0 (.A0 (kS UY) (.A0 (.Z1 iS (.F0 Ii)) (.A0 (.F0 pB) (.A0 (.Z1 gS (.F0 Ii)) (.A0 (.K2 (.v0 (.Y0 352)) (.A0 (.F0 R4) (.A0 (.F0 pB) (.A0 (.Z1 qD (.F0 Ii)) (.A0 (.F0 WE) .B0))))) .B0))))))))))))))
def LF0:S:=(.V1 (.Z1 qJ (.F0 Q2)) (.M1 .B0) (.V1 (.Z1 C30 (.F0 Q2)) (.M1 .B0) .B0))
def MF0:S:=(.B6 (.F4 .VI UQ (.Z1 qJ (.F0 Q2)) (.A0 (.v0 .H0) .B0)) (.B6 (.F4 .VI UQ (.Z1 C30 (.F0 Q2)) (.A0 (.v0 (.O3 R0)) .B0)) (.U1 (.Q0 (.A0 (kS wK) (.A0 (.L6 .w0 (.b1 .Z5 (.Z1 qJ (.F0 Q2))) (kI 1)) .B0))))))
def NF0:S:=(.LM (.D8 (.S1 .f8 (.w0 (.F0 E3) (kI 0)) (.Q0 (.A0 (kS wK) (.A0 (kS iM) .B0)))) (.S1 .rE (.w0 (.Z1 qJ (.F0 Q2)) (.w0 (.F0 E3) (kI 1))) (.v0 .H0))) (.V1 (.F0 E3) (.w0 (.Z1 qJ (.F0 Q2)) (.w0 (.F0 E3) (kI 1))) .B0) (.U1 (.F0 E3)))
def OF0:S:=(.V1 (.F0 E3) (.F4 .K5 zb (.F0 Q2) (.A0 (.F0 E3) .B0)) (.U1 (.K2 (.v0 (.Y0 193)) (.A0 (.F0 E3) (.A0 (.J7 (.F4 .K5 iF (.F0 Q2) (.A0 (.F0 WD) .B0)) (.F0 WD) .B0 (.T4 (.K2 (.v0 (.Y0 186)) (.A0 (.F0 E3) .B0)))) .B0)))))
def PF0:S:=(.V1 (.F0 sG) (.M1 (.A0 (.F0 E3) .B0)) (.LM (.S1 .ne (.F0 sG) (.M1 .B0)) (.V1 (.F0 M9) (.F4 .K5 zb (.F0 Q2) (.A0 (.F4 .jK yh (.F0 sG) .B0) .B0)) (.K3 (.S1 .eq (.F0 M9) (.F0 qM)) (.U1 (.v0 (.O3 I0))) .B0 (.B6 (.F4 .pN Zb (.F0 sG) (.A0 (.K2 (.v0 (.Y0 186)) (.A0 (.F0 M9) .B0)) .B0)) .B0))) (.U1 (.v0 (.O3 R0)))))
def QF0:S:=(.K3 (.D8 (.S1 .eq (.w0 (.F0 qM) (kI 0)) (kS iM)) (.S1 .rI (.w0 (.F0 E3) (kI 0)) (.Q0 (.A0 (kS lB) (.A0 (kS iM) .B0))))) (.K3 (.S1 .eq (.w0 (.F0 E3) (kI 0)) (kS wK)) (.V1 (.w0 (.Z1 qJ (.F0 Q2)) (.w0 (.F0 E3) (kI 1))) (.F0 qM) (.U1 (.v0 .H0))) .B0 (.kC (.K2 (.v0 (.Y0 64)) (.A0 (.L6 .n6 (kS iD0) (.K2 (.v0 (.Y0 229)) (.A0 (.F4 .K5 iF (.F0 Q2) (.A0 (.F0 E3) .B0)) .B0))) .B0)))) .B0 (.K3 (.F4 .K5 D30 (.F0 Q2) (.A0 (.F0 qM) (.A0 (.F0 E3) .B0))) (.kC (.K2 (.v0 (.Y0 64)) (.A0 (kS jD0) .B0))) .B0 (.V1 (.w0 (.Z1 qJ (.F0 Q2)) (.w0 (.F0 qM) (kI 1))) (.F0 E3) .B0)))
def RF0:S:=(.K3 (.or (.S1 .ne (.w0 (.F0 l8) (kI 0)) (.w0 (.F0 nB) (kI 0))) (.S1 .ne (.b1 .Z5 (.K2 (.v0 (.Y0 186)) (.A0 (.F0 l8) .B0))) (.b1 .Z5 (.K2 (.v0 (.Y0 186)) (.A0 (.F0 nB) .B0))))) (.U1 (.v0 (.O3 R0))) .B0 (.K3 (.S1 .f8 (.w0 (.F0 l8) (kI 0)) (.Q0 (.A0 (kS lB) (.A0 (kS P7) (.A0 (kS Z9) .B0))))) (.U1 (.S1 .eq (.w0 (.F0 l8) (kI 1)) (.w0 (.F0 nB) (kI 1)))) .B0 (.U1 (.K7 (.S1 .f8 (.w0 (.F0 l8) (kI 0)) (.Q0 (.A0 (kS rH) (.A0 (kS TQ) .B0)))) (.S1 .eq (.w0 (.F0 l8) (kI 2)) (.w0 (.F0 nB) (kI 2))) (.v0 (.O3 I0))))))
def SF0:S:=(.V1 (.F0 sG) (.M1 (.A0 (.Q0 (.A0 (.F0 l8) (.A0 (.F0 nB) .B0))) .B0)) (.LM (.S1 .ne (.F0 sG) (.M1 .B0)) (.V1 (.Q0 (.A0 (.F0 M9) (.A0 (.F0 UE) .B0))) (.F4 .jK yh (.F0 sG) .B0) (.V1 (.Q0 (.A0 (.F0 M9) (.A0 (.F0 UE) .B0))) (.Q0 (.A0 (.F4 .K5 zb (.F0 Q2) (.A0 (.F0 M9) .B0)) (.A0 (.F4 .K5 zb (.F0 Q2) (.A0 (.F0 UE) .B0)) .B0))) (.K3 (.S1 .eq (.F0 M9) (.F0 UE)) .bB .B0 (.K3 (.S1 .f8 (.w0 (.F0 M9) (kI 0)) (.Q0 (.A0 (kS wK) (.A0 (kS iM) .B0)))) (.B6 (.F4 .K5 sr (.F0 Q2) (.A0 (.F0 M9) (.A0 (.F0 UE) .B0))) .B0) (.K3 (.S1 .f8 (.w0 (.F0 UE) (kI 0)) (.Q0 (.A0 (kS wK) (.A0 (kS iM) .B0)))) (.B6 (.F4 .K5 sr (.F0 Q2) (.A0 (.F0 UE) (.A0 (.F0 M9) .B0))) .B0) (.K3 (.F4 .K5 E30 (.F0 Q2) (.A0 (.F0 M9) (.A0 (.F0 UE) .B0))) (.B6 (.F4 .pN Zb (.F0 sG) (.A0 (.BQ (.mk .M1 (.pK (.K2 (.v0 (.Y0 186)) (.A0 (.F0 M9) .B0)) (.K2 (.v0 (.Y0 186)) (.A0 (.F0 UE) .B0))))) .B0)) .B0) (.V1 (.F0 E3) (.L6 .n6 (.L6 .n6 (.K2 (.v0 (.Y0 229)) (.A0 (.F4 .K5 iF (.F0 Q2) (.A0 (.F0 M9) .B0)) .B0)) (kS kD0)) (.K2 (.v0 (.Y0 229)) (.A0 (.F4 .K5 iF (.F0 Q2) (.A0 (.F0 UE) .B0)) .B0))) (.kC (.K2 (.v0 (.Y0 64)) (.A0 (.L6 .n6 (kS lD0) (.F0 E3)) .B0)))) .B0) .B0) .B0)))) .B0))
def TF0:S:=(.V1 (.Z1 jF (.F0 Q2)) (.F0 jF) (.V1 (.Z1 uE (.F0 Q2)) (.F0 uE) (.V1 (.Z1 qS (.F0 Q2)) (.F0 qS) (.V1 (.Z1 KG (.F0 Q2)) (.F0 KG) (.V1 (.Z1 uH (.F0 Q2)) (.F0 uH) .B0)))))
def UF0:S:=(.V1 (.Q0 (.A0 (.F0 T8) (.A0 (.F0 G6) .B0))) (.Q0 (.A0 (.w0 (.F0 uG) (kI 0)) (.A0 (.w0 (.F0 uG) (kI 1)) .B0))) (.K3 (.S1 .eq (.F0 T8) (kS u5)) (.U1 (.F4 .K5 u5 (.F0 Q2) (.A0 (.F0 G6) (.A0 (.w0 (.F0 uG) (kI 2)) .B0)))) .B0 (.K3 (.S1 .eq (.F0 T8) (kS rH)) (.U1 (.Q0 (.A0 (kS rH) (.A0 (.w0 (.F0 uG) (kI 2)) (.A0 (.w0 (.F0 uG) (kI 3)) (.A0 (.F4 .K5 WQ (.F0 Q2) (.A0 (.w0 (.F0 uG) (kI 4)) .B0)) .B0)))))) .B0 (.K3 (.S1 .eq (.F0 T8) (kS SE)) (.U1 (.Q0 (.A0 (kS SE) (.A0 (.mk .Q0 (.T4 (.J7 (.F4 .K5 WQ (.F0 Q2) (.A0 (.F0 l8) .B0)) (.F0 l8) .B0 (.T4 (.w0 (.F0 uG) (kI 2)))))) .B0)))) .B0 (.K3 (.S1 .eq (.F0 T8) (kS TQ)) (.U1 (.Q0 (.A0 (kS TQ) (.A0 (.F4 .K5 WQ (.F0 Q2) (.A0 (.w0 (.F0 uG) (kI 2)) .B0)) (.A0 (.w0 (.F0 uG) (kI 3)) .B0))))) .B0 (.K3 (.S1 .eq (.F0 T8) (kS gb)) (.U1 (.Q0 (.A0 (kS gb) .B0))) .B0 (.U1 (.F4 .K5 qM (.F0 Q2) .B0))))))))
def VF0:S:=(.U1 (.K7 (.S1 .iG (.Z1 uH (.F0 Q2)) (.v0 .H0)) (.Q0 (.A0 (kS Ac) .B0)) (.F4 .K5 uH (.F0 Q2) .B0)))
def WF0:S:=(.V1 (.F0 VC) (.mk .Q0 (.T4 (.J7 (.w0 (.F0 O9) (kI 0)) (.F0 O9) .B0 (.T4 (.F0 N9))))) (.K3 (.S1 .eq (.b1 .Z5 (.F0 N9)) (kI 1)) (.V1 (.F0 E3) (.F4 .K5 F30 (.F0 Q2) (.A0 (.F0 G6) (.A0 (.w0 (.F0 N9) (kI 0)) .B0))) (.K3 (.S1 .rE (.F0 E3) (.v0 .H0)) (.U1 (.F0 E3)) .B0 .B0)) .B0 (.RE (.F0 O9) (.T4 (.iE (.F0 N9) (.v0 .H0) (.v0 (.j0 (.PB 0))))) (.K3 (.or (.S1 .ne (.w0 (.F0 O9) (kI 1)) (.Q0 .B0)) (.S1 .ne (.w0 (.F0 O9) (kI 2)) (.Q0 .B0))) (.kC (.K2 (.v0 (.Y0 64)) (.A0 (kS oD0) (.A0 (.F0 G6) .B0)))) .B0 .B0) (.U1 (.F4 .K5 pS (.F0 Q2) (.A0 (.F0 G6) (.A0 (.F0 VC) (.A0 (.w0 (.F0 N9) (.v0 (.j0 (.PB 0)))) .B0))))))))
def XF0:S:=(.V1 (.Q0 (.A0 (.F0 I6) (.A0 (.F0 VE) (.A0 (.F0 UA) .B0)))) (.F0 O9) (.K3 (.D8 (.S1 .f8 (.F0 I6) (.Z1 qS (.F0 Q2))) (.S1 .ne (.F0 I6) (kS vK))) (.U1 (.F4 .K5 Bc (.F0 Q2) (.A0 (.F0 G6) (.A0 (.F0 O9) (.A0 (.Q0 (.A0 (kS P7) (.A0 (.F0 I6) .B0))) .B0))))) .B0 (.K3 (.D8 (.S1 .eq (.F0 I6) (kS vK)) (.S1 .rE (.Z1 KG (.F0 Q2)) (.v0 .H0))) (.U1 (.F4 .K5 Bc (.F0 Q2) (.A0 (.F0 G6) (.A0 (.F0 O9) (.A0 (.Z1 KG (.F0 Q2)) .B0))))) .B0 (.K3 (.S1 .f8 (.F0 I6) (.v0 (.Q0 (.A0 (.Z0 kh) (.A0 (.Z0 mh) (.A0 (.Z0 nh) (.A0 (.Z0 oh) (.A0 (.Z0 tC) (.A0 (.Z0 qh) (.A0 (.Z0 uh) (.A0 (.Z0 vh) (.A0 (.Z0 wh) .B0)))))))))))) (.U1 (.F4 .K5 Bc (.F0 Q2) (.A0 (.F0 G6) (.A0 (.F0 O9) (.A0 (.Q0 (.A0 (kS lB) (.A0 (.F0 I6) .B0))) .B0))))) .B0 (.K3 (.S1 .eq (.F0 I6) (kS gJ)) (.U1 (.F4 .K5 Bc (.F0 Q2) (.A0 (.F0 G6) (.A0 (.F0 O9) (.A0 (.Q0 (.A0 (kS gJ) .B0)) .B0))))) .B0 (.K3 (.S1 .ne (.F0 I6) (kS Hi)) (.U1 (.v0 .H0)) .B0 (.K3 (.or (.S1 .ne (.F0 VE) (.Q0 .B0)) (.S1 .gt (.b1 .Z5 (.F0 UA)) (kI 1))) (.kC (.K2 (.v0 (.Y0 64)) (.A0 (kS pD0) (.A0 (.F0 G6) .B0)))) .B0 (.U1 (.Q0 (.A0 (kS KA) (.A0 (.K7 (.S1 .ne (.F0 UA) (.Q0 .B0)) (.F4 .K5 WQ (.F0 Q2) (.A0 (.w0 (.F0 UA) (kI 0)) .B0)) (.F4 .K5 qM (.F0 Q2) .B0)) .B0)))))))))))
def YF0:S:=(.K3 (.or (.S1 .ne (.w0 (.F0 O9) (kI 1)) (.Q0 .B0)) (.S1 .ne (.w0 (.F0 O9) (kI 2)) (.Q0 .B0))) (.kC (.K2 (.v0 (.Y0 64)) (.A0 (.L6 .n6 (.w0 (.F0 O9) (kI 0)) (kS qD0)) (.A0 (.F0 G6) .B0)))) .B0 (.U1 (.F0 E3)))
def ZF0:S:=(.V1 (.F0 u5) (.F4 .K5 qb (.Z1 jF (.F0 Q2)) (.A0 (.Z1 uE (.F0 Q2)) (.A0 (.F0 VC) (.A0 (kS yK) (.A0 (.F0 G6) .B0))))) (.K3 (.S1 .rI (.w0 (.Z1 QV (.Z1 jF (.F0 Q2))) (.F0 u5)) (.Q0 (.A0 (kS yb) (.A0 (kS G30) .B0)))) (.kC (.K2 (.v0 (.Y0 64)) (.A0 (.L6 .n6 (.F0 u5) (kS rD0)) (.A0 (.F0 G6) .B0)))) .B0 (.V1 (.Q0 (.A0 (.F0 VE) (.A0 (.F0 Q7) .B0))) (.w0 (.Z1 qS (.Z1 jF (.F0 Q2))) (.F0 u5)) (.K3 (.D8 (.S1 .ne (.w0 (.F0 O9) (kI 1)) (.Q0 .B0)) (.S1 .ne (.b1 .Z5 (.w0 (.F0 O9) (kI 1))) (.b1 .Z5 (.F0 VE)))) (.kC (.K2 (.v0 (.Y0 64)) (.A0 (.L6 .n6 (.F0 u5) (kS sD0)) (.A0 (.F0 G6) .B0)))) .B0 (.K3 (.D8 (.S1 .ne (.w0 (.F0 O9) (kI 2)) (.Q0 .B0)) (.S1 .ne (.b1 .Z5 (.w0 (.F0 O9) (kI 2))) (.b1 .Z5 (.F0 Q7)))) (.kC (.K2 (.v0 (.Y0 64)) (.A0 (.L6 .n6 (.F0 u5) (kS tD0)) (.A0 (.F0 G6) .B0)))) .B0 (.V1 (.F0 E3) (.K7 (.S1 .ne (.w0 (.F0 O9) (kI 1)) (.Q0 .B0)) (.mk .Q0 (.T4 (.w0 (.F0 O9) (kI 1)))) (.L6 .La (.Q0 (.A0 (.v0 .H0) .B0)) (.b1 .Z5 (.F0 VE)))) (.K3 (.S1 .ne (.w0 (.F0 O9) (kI 2)) (.Q0 .B0)) (.U1 (.Q0 (.A0 (kS Z9) (.A0 (.F0 u5) (.A0 (.F0 E3) (.A0 (.mk .Q0 (.T4 (.J7 (.F4 .K5 WQ (.F0 Q2) (.A0 (.F0 l8) .B0)) (.F0 l8) .B0 (.T4 (.w0 (.F0 O9) (kI 2)))))) .B0)))))) .B0 (.U1 (.Q0 (.A0 (kS Z9) (.A0 (.F0 u5) (.A0 (.F0 E3) (.A0 (.mk .Q0 (.T4 (.J7 (.F4 .K5 qM (.F0 Q2) .B0) (.F0 I6) .B0 (.T4 (.F0 Q7))))) .B0)))))))))))))
def aF0:S:=(.U1 (.F4 .K5 WQ (.K2 (.v0 (.Y0 514)) (.A0 (.F0 jF) (.A0 (.F0 uE) (.A0 (.F0 qS) (.A0 (.F0 KG) (.A0 (.F0 uH) .B0)))))) (.A0 (.F0 uG) .B0)))
def bF0:S:=(.V1 (.Z1 c6 (.F0 Q2)) (.F0 c6) (.V1 (.Z1 uE (.F0 Q2)) (.F0 uE) (.V1 (.Z1 KG (.F0 Q2)) (.F0 KG) (.V1 (.Z1 lJ (.F0 Q2)) (.F0 lJ) (.V1 (.Z1 VV (.F0 Q2)) (.F0 VV) (.V1 (.Z1 Ac (.F0 Q2)) (.K2 (.v0 (.Y0 456)) .B0) (.V1 (.Z1 uD0 (.F0 Q2)) (.M1 .B0) (.V1 (.Z1 vD0 (.F0 Q2)) (.M1 (.A0 (.H2 .B0) .B0)) (.V1 (.Z1 wD0 (.F0 Q2)) (.M1 .B0) (.V1 (.Z1 xD0 (.F0 Q2)) (kI 0) (.V1 (.Z1 Fi (.F0 Q2)) (.M1 .B0) (.V1 (.Z1 Cc (.F0 Q2)) (.v0 (.Q0 (.A0 (.Z0 SE) (.A0 (.Q0 .B0) .B0)))) .B0))))))))))))
def cF0:S:=(.U1 (.F4 .K5 WQ (.Z1 VV (.F0 Q2)) (.A0 (.F0 Q2) (.A0 (.F0 sI) (.A0 (.F0 tG) .B0)))))
def dF0:S:=(.U1 (.F4 .K5 uH (.Z1 Ac (.F0 Q2)) .B0))
def eF0:S:=(.U1 (.F4 .K5 iF (.Z1 Ac (.F0 Q2)) (.A0 (.F0 E3) .B0)))
def fF0:S:=(.XO (.B6 (.F4 .K5 SY (.Z1 Ac (.F0 Q2)) (.A0 (.F0 l8) (.A0 (.F0 nB) .B0))) .B0) (.xg 64 jA 64 xh G6 .B0) .B0)
def gF0:S:=(.V1 (.F0 VC) (.mk .M1 (.T4 (.Z1 lJ (.F0 Q2)))) (.U1 (.K2 (.v0 (.Y0 217)) (.A0 (.K2 (.v0 (.Y0 526)) (.A0 (.Z1 jF (.Z1 c6 (.F0 Q2))) (.A0 (.Z1 uE (.F0 Q2)) (.A0 (.F0 VC) (.A0 (.Z1 KG (.F0 Q2)) (.A0 (.F0 uG) (.A0 (.Z1 uH (.F0 Q2)) .B0))))))) .B0))))
def hF0:S:=(.V1 (.F0 Z9) (.w0 (.Z1 nM (.Z1 c6 (.F0 Q2))) (.F0 u5)) (.K3 (.S1 .rI (.b1 .Z5 (.F0 E3)) (.Q0 (.A0 (kI 0) (.A0 (.b1 .Z5 (.Z1 Q7 (.F0 Z9))) .B0)))) (.kC (.K2 (.v0 (.Y0 64)) (.A0 (.L6 .n6 (.L6 .n6 (.b1 .Z0 (.b1 .Z5 (.Z1 Q7 (.F0 Z9)))) (kS yD0)) (.b1 .Z0 (.b1 .Z5 (.F0 E3)))) .B0))) .B0 (.V1 (.F0 UA) (.J7 (.F4 .K5 Ei (.F0 Q2) (.A0 (.F0 uG) .B0)) (.F0 uG) .B0 (.T4 (.F0 E3))) (.K3 (.S1 .eq (.F0 UA) (.M1 .B0)) (.V1 (.F0 UA) (.J7 (.F4 .K5 uH (.F0 Q2) .B0) (.F0 I6) .B0 (.T4 (.Z1 Q7 (.F0 Z9)))) .B0) .B0 (.U1 (.Q0 (.A0 (kS Z9) (.A0 (.F0 u5) (.A0 (.L6 .La (.Q0 (.A0 (.v0 .H0) .B0)) (.b1 .Z5 (.Z1 VE (.F0 Z9)))) (.A0 (.mk .Q0 (.T4 (.F0 UA))) .B0))))))))))
def iF0:S:=(.V1 (.F0 E3) (.w0 (.w0 (.F0 N9) (.v0 (.j0 (.PB 0)))) (kI 2)) (.K3 (.D8 (.S1 .eq (.F0 E3) (.Q0 .B0)) (.D8 (.S1 .gt (.b1 .Z5 (.F0 N9)) (kI 1)) (.Z1 WV (.w0 (.Z1 nM (.Z1 c6 (.F0 Q2))) (.F0 VY))))) (.V1 (.F0 E3) (.w0 (.w0 (.F0 N9) (.v0 (.j0 (.PB 1)))) (kI 2)) .B0) .B0 (.U1 (.F0 E3))))
def jF0:S:=(.K3 (.S1 .eq (.w0 (.w0 (.F0 N9) (kI 0)) (kI 0)) (kS vK)) (.U1 (.F4 .K5 H30 (.F0 Q2) (.A0 (.F0 N9) (.A0 (.F0 G6) .B0)))) .B0 (.XO (.V1 (.F0 u5) (.F4 .K5 qb (.Z1 jF (.Z1 c6 (.F0 Q2))) (.A0 (.Z1 uE (.F0 Q2)) (.A0 (.K2 (.v0 (.Y0 702)) (.A0 (.F0 N9) .B0)) (.A0 (kS jr) (.A0 (.F0 G6) .B0))))) .B0) (.oU 52 .H0 .B0) (.K3 (.S1 .f8 (.F0 u5) (.Z1 iO (.Z1 c6 (.F0 Q2)))) (.V1 (.Q0 (.A0 (.F0 VY) (.A0 (.F0 nJ) .B0))) (.w0 (.Z1 iO (.Z1 c6 (.F0 Q2))) (.F0 u5)) (.V1 (.F0 T8) (.K7 (.Z1 WV (.w0 (.Z1 nM (.Z1 c6 (.F0 Q2))) (.F0 VY))) (kS TV) (kS yb)) (.U1 (.Q0 (.A0 (.F0 T8) (.A0 (.F0 VY) (.A0 (.F0 nJ) (.A0 (.F4 .K5 I30 (.F0 Q2) (.A0 (.F0 VY) (.A0 (.F0 N9) .B0))) .B0)))))))) .B0 (.K3 (.S1 .f8 (.F0 u5) (.Z1 ur (.Z1 c6 (.F0 Q2)))) (.V1 (.Q0 (.A0 (.F0 E3) (.A0 (.F0 i6) (.A0 (.F0 uE) .B0)))) (.w0 (.Z1 ur (.Z1 c6 (.F0 Q2))) (.F0 u5)) (.U1 (.Q0 (.A0 (kS Ji) (.A0 (.K2 (.v0 (.Y0 217)) (.A0 (.F0 E3) .B0)) (.A0 (.Q0 (.A0 (kS zD0) (.A0 (.F0 G6) (.A0 (.F0 uE) (.A0 (.F0 i6) .B0))))) (.A0 (.K2 (.v0 (.Y0 709)) (.A0 (.F0 i6) .B0)) .B0))))))) .B0 (.U1 (.v0 .H0))))))
def kF0:S:=(.V1 (.F0 vH) (.Z1 KG (.F0 Q2)) (.K3 (.or (.S1 .iG (.F0 vH) (.v0 .H0)) (.or (.S1 .ne (.w0 (.F0 vH) (kI 0)) (kS Z9)) (.S1 .gt (.b1 .Z5 (.F0 N9)) (kI 2)))) (.U1 (.v0 .H0)) .B0 (.V1 (.F0 Z9) (.w0 (.Z1 nM (.Z1 c6 (.F0 Q2))) (.w0 (.F0 vH) (kI 1))) (.V1 (.F0 VC) (.J7 (.w0 (.F0 O9) (kI 0)) (.F0 O9) .B0 (.T4 (.Z1 iO (.F0 Z9)))) (.K3 (.D8 (.S1 .eq (.b1 .Z5 (.F0 N9)) (kI 1)) (.hH (.Z1 WV (.F0 Z9)))) (.U1 (.Q0 (.A0 (kS yb) (.A0 (.w0 (.F0 vH) (kI 1)) (.A0 (kI 0) (.A0 (.Q0 .B0) .B0)))))) .B0 (.K3 (.D8 (.S1 .eq (.b1 .Z5 (.F0 N9)) (kI 2)) (.D8 (.Z1 WV (.F0 Z9)) (.S1 .f8 (.w0 (.w0 (.F0 N9) (kI 1)) (kI 0)) (.F0 VC)))) (.U1 (.Q0 (.A0 (kS TV) (.A0 (.w0 (.F0 vH) (kI 1)) (.A0 (.F4 .K5 J30 (.F0 VC) (.A0 (.w0 (.w0 (.F0 N9) (kI 1)) (kI 0)) .B0)) (.A0 (.Q0 .B0) .B0)))))) .B0 (.U1 (.v0 .H0))))))))
def lF0:S:=(.V1 (.Q0 (.A0 (.F0 M9) (.A0 (.F0 tG) .B0))) (.Q0 (.A0 (.F4 .K5 iF (.F0 Q2) (.A0 (.w0 (.F0 i6) (kI 1)) .B0)) (.A0 (.F4 .K5 iF (.F0 Q2) (.A0 (.F0 E3) .B0)) .B0))) (.K3 (.S1 .eq (.F0 M9) (.Q0 (.A0 (kS gb) .B0))) (.U1 (.F0 i6)) .B0 (.K3 (.D8 (.S1 .eq (.w0 (.F0 M9) (kI 0)) (kS rH)) (.D8 (.S1 .eq (.w0 (.F0 tG) (kI 0)) (kS rH)) (.or (.w0 (.F0 M9) (kI 2)) (.hH (.w0 (.F0 tG) (kI 2)))))) (.V1 (.F0 i6) (.F4 .K5 K30 (.F0 Q2) (.A0 (.F0 i6) (.A0 (.F0 M9) (.A0 (.F0 tG) .B0)))) .B0) .B0 (.B6 (.F4 .K5 SY (.F0 Q2) (.A0 (.w0 (.F0 i6) (kI 1)) (.A0 (.F0 E3) (.A0 (.w0 (.F0 i6) (kI 2)) .B0)))) (.U1 (.F0 i6))))))
def mF0:S:=(.V1 (.Q0 (.A0 (.F0 G6) (.A0 (.F0 IB) .B0))) (.Q0 (.A0 (.w0 (.F0 i6) (kI 2)) (.A0 (.w0 (.F0 M9) (kI 3)) .B0))) (.V1 (.F0 Li) (.Q0 (.A0 (kS xr) (.A0 (.F0 IB) (.A0 (.F0 G6) (.A0 (.F0 i6) .B0))))) (.V1 (.F0 L30) (.w0 (.w0 (.F0 tG) (kI 3)) (kI 0)) (.LM (.D8 (.S1 .f8 (.w0 (.F0 IB) (kI 0)) (.Q0 (.A0 (kS KA) (.A0 (kS rH) .B0)))) (.D8 (.S1 .rI (.F0 L30) (.Q0 (.A0 (.w0 (.F0 IB) (kI 0)) (.A0 (kS wK) .B0)))) (.or (.S1 .eq (.w0 (.F0 IB) (kI 0)) (kS KA)) (.hH (.w0 (.F0 tG) (kI 2)))))) (.V1 (.F0 IB) (.K7 (.S1 .eq (.w0 (.F0 IB) (kI 0)) (kS KA)) (.w0 (.F0 IB) (kI 1)) (.w0 (.F0 IB) (kI 3))) (.V1 (.F0 Li) (.Q0 (.A0 (kS xr) (.A0 (.F0 IB) (.A0 (.F0 G6) (.A0 (.F0 Li) .B0))))) .B0)) (.K3 (.D8 (.S1 .eq (.F0 IB) (.w0 (.F0 M9) (kI 3))) (.D8 (.S1 .eq (.w0 (.F0 M9) (kI 2)) (.w0 (.F0 tG) (kI 2))) (.or (.hH (.w0 (.F0 M9) (kI 2))) (.hH (.K2 (.v0 (.Y0 716)) (.A0 (.F0 i6) .B0)))))) (.U1 (.F0 i6)) .B0 (.U1 (.Q0 (.A0 (kS AE0) (.A0 (.Q0 (.A0 (kS rH) (.A0 (.v0 .H0) (.A0 (.w0 (.F0 tG) (kI 2)) (.A0 (.F0 IB) .B0))))) (.A0 (.F0 G6) (.A0 (.K7 (.w0 (.F0 tG) (kI 2)) (kS BE0) (kS CE0)) (.A0 (.F0 Li) .B0))))))))))))
def nF0:S:=(.U1 (.mk .Q0 (.T4 (.J7 (.F0 I6) (.Q0 (.A0 (.F0 I6) (.A0 (.F0 VE) (.A0 (.F0 UA) .B0)))) .B0 (.T4 (.F0 N9))))))
def oF0:S:=(.K3 (.S1 .f8 (.w0 (.F0 i6) (kI 0)) (.Q0 (.A0 (kS lB) (.A0 (kS gJ) .B0)))) (.U1 (.w0 (.F0 i6) (kI 2))) .B0 (.K3 (.D8 (.S1 .eq (.w0 (.F0 i6) (kI 0)) (kS NE0)) (.D8 (.S1 .eq (.w0 (.F0 i6) (kI 2)) (kS OE0)) (.S1 .eq (.w0 (.w0 (.F0 i6) (kI 3)) (kI 0)) (kS lB)))) (.U1 (.L6 .w0 (kI 0) (.w0 (.w0 (.F0 i6) (kI 3)) (kI 2)))) .B0 (.U1 (.v0 .H0))))
def pF0:S:=(.LM (.S1 .f8 (.w0 (.F0 i6) (kI 0)) (.Q0 (.A0 (kS PE0) (.A0 (kS J30) .B0)))) (.V1 (.F0 i6) (.w0 (.F0 i6) (kI 3)) .B0) (.U1 (.S1 .f8 (.w0 (.F0 i6) (kI 0)) (.Q0 (.A0 (kS M30) (.A0 (kS xr) .B0))))))
def qF0:S:=(.V1 (.Z1 u5 (.F0 Q2)) (.F0 u5) (.V1 (.Z1 uE (.F0 Q2)) (.F0 uE) (.V1 (.Z1 VE (.F0 Q2)) (.F0 VE) (.V1 (.Z1 Q7 (.F0 Q2)) (.F0 Q7) (.V1 (.Z1 iO (.F0 Q2)) (.F0 iO) (.V1 (.Z1 yr (.F0 Q2)) (.F0 yr) (.V1 (.Z1 WV (.F0 Q2)) (.F0 WV) .B0)))))))
def rF0:S:=(.V1 (.Z1 u5 (.F0 Q2)) (.F0 u5) (.V1 (.Z1 VE (.F0 Q2)) (.F0 VE) (.V1 (.Z1 Q7 (.F0 Q2)) (.F0 Q7) (.V1 (.Z1 vH (.F0 Q2)) (.F0 vH) (.V1 (.Z1 qD (.F0 Q2)) (.F0 qD) (.V1 (.Z1 iS (.F0 Q2)) (.F0 iS) (.V1 (.Z1 As (.F0 Q2)) (.F0 As) (.V1 (.Z1 Cs (.F0 Q2)) (.F0 Cs) .B0))))))))
def sF0:S:=(.V1 (.Z1 u5 (.F0 Q2)) (.F0 u5) (.V1 (.Z1 Q7 (.F0 Q2)) (.F0 Q7) (.V1 (.Z1 pM (.F0 Q2)) (.F0 pM) (.V1 (.Z1 Ds (.F0 Q2)) (.F0 Ds) .B0))))
def tF0:S:=(.V1 (.Z1 nJ (.F0 Q2)) (.F0 nJ) (.V1 (.Z1 VE (.F0 Q2)) (.F0 VE) (.V1 (.Z1 Q7 (.F0 Q2)) (.F0 Q7) (.V1 (.Z1 y9 (.F0 Q2)) (.F0 y9) (.V1 (.Z1 dS (.F0 Q2)) (.F0 dS) (.V1 (.Z1 KG (.F0 Q2)) (.F0 KG) (.V1 (.Z1 pM (.F0 Q2)) (.F0 pM) (.V1 (.Z1 G6 (.F0 Q2)) (.F0 G6) .B0))))))))
def uF0:S:=(.V1 (.Z1 jF (.F0 Q2)) (.F0 jF) (.V1 (.Z1 nM (.F0 Q2)) (.H2 .B0) (.V1 (.Z1 iO (.F0 Q2)) (.H2 .B0) (.V1 (.Z1 jS (.F0 Q2)) (.H2 .B0) (.V1 (.Z1 tE (.F0 Q2)) (.H2 .B0) (.V1 (.Z1 kM (.F0 Q2)) (.M1 .B0) (.V1 (.Z1 ur (.F0 Q2)) (.H2 .B0) (.V1 (.Z1 QE0 (.F0 Q2)) (.H2 .B0) .B0))))))))
def Ri:S:=(.K3 (.S1 .gt (.w0 (.F0 BC) (kI 0)) (kI 0)) (.V1 (.F0 N30) .M2 (.V1 (.w0 (.F0 BC) (kI 0)) .M2 (.U1 (.F0 N30)))) .B0 (.V1 (.w0 (.F0 BC) (kI 1)) .M2 (.U1 .M2)))
def vF0:S:=(.U1 (.w0 (.F0 Es) (.K2 (.v0 (.Y0 846)) (.A0 (.F0 BC) (.A0 (.b1 .Z5 (.F0 Es)) .B0)))))
def wF0:S:=(.V1 (.F0 u5) (.F4 .sP Yr (kS n20) (.A0 (.F0 VC) .B0)) (.K3 (.S1 .rI (.F0 u5) (.K7 (.S1 .eq (.F0 O30) (kS yK)) (.M1 (.A0 (kS xE) (.A0 (kS jO) (.A0 (kS zK) .B0)))) (.M1 (.A0 (kS VQ) (.A0 (kS Dc) (.A0 (kS Ec) (.A0 (kS xE) (.A0 (kS P30) (.A0 (kS Q30) .B0))))))))) (.kC (.K2 (.v0 (.Y0 52)) (.A0 (.L6 .n6 (kS SE0) (.F0 u5)) (.A0 (.F0 G6) .B0)))) .B0 (.U1 (.F0 u5))))
def xF0:S:=(.V1 (.Q0 (.A0 (.F0 c6) (.A0 (.F0 rS) .B0))) (.Q0 (.A0 (.K2 (.v0 (.Y0 828)) (.A0 (.K2 (.v0 (.Y0 828)) .B0) .B0)) (.A0 (.M1 (.A0 (.Q0 (.A0 (kS W3) (.A0 (.Q0 .B0) .B0))) (.A0 (.Q0 (.A0 (kS iJ) (.A0 (.Q0 .B0) .B0))) .B0))) .B0))) (.V1 (.Z1 qb (.Z1 jF (.F0 c6))) (.v0 (.Y0 864)) (.V1 (.Z1 QV (.Z1 jF (.F0 c6))) (.H2 (.A0 (kS xE) (.A0 (kS yb) (.A0 (kS jO) (.A0 (kS G30) (.A0 (kS zK) (.A0 (kS y9) .B0))))))) (.V1 (.Z1 qS (.Z1 jF (.F0 c6))) (.H2 (.A0 (kS xE) (.A0 (.Q0 (.A0 (.Q0 .B0) (.A0 (.Q0 (.A0 (kS W3) .B0)) .B0))) (.A0 (kS jO) (.A0 (.Q0 (.A0 (.Q0 .B0) (.A0 (.Q0 (.A0 (kS W3) .B0)) .B0))) .B0))))) (.V1 (.w0 (.Z1 nM (.F0 c6)) (kS xE)) (.K2 (.v0 (.Y0 735)) (.A0 (kS xE) (.A0 (.Q0 .B0) (.A0 (.Q0 (.A0 (kS W3) .B0)) (.A0 (.M1 (.A0 (.Q0 (.A0 (kS xE) (.A0 (kS SE) (.A0 (.M1 (.A0 (.Q0 (.A0 (kS R30) (.A0 (.v0 (.Q0 (.A0 (.Z0 P7) (.A0 (.Z0 W3) .B0)))) .B0))) (.A0 (.Q0 (.A0 (kS TE0) (.A0 (.v0 (.Q0 (.A0 (.Z0 lB) (.A0 (.Z0 tC) .B0)))) .B0))) .B0))) .B0)))) .B0)) (.A0 (.v0 (.O3 R0)) .B0)))))) (.V1 (.w0 (.Z1 nM (.F0 c6)) (kS jO)) (.K2 (.v0 (.Y0 735)) (.A0 (kS jO) (.A0 (.Q0 .B0) (.A0 (.Q0 (.A0 (kS W3) .B0)) (.A0 (.M1 (.A0 (.Q0 (.A0 (kS S30) (.A0 (kS UE0) (.A0 (.M1 .B0) .B0)))) (.A0 (.Q0 (.A0 (kS T30) (.A0 (kS SE) (.A0 (.M1 (.A0 (.Q0 (.A0 (kS R30) (.A0 (.Q0 (.A0 (kS KA) (.A0 (.v0 (.Q0 (.A0 (.Z0 P7) (.A0 (.Z0 W3) .B0)))) .B0))) .B0))) .B0)) .B0)))) .B0))) (.A0 (.v0 (.O3 I0)) .B0)))))) (.V1 (.Z1 iO (.F0 c6)) (.H2 (.A0 (kS xE) (.A0 (.Q0 (.A0 (kS xE) (.A0 (kI 0) .B0))) (.A0 (kS P30) (.A0 (.Q0 (.A0 (kS jO) (.A0 (kI 0) .B0))) (.A0 (kS Q30) (.A0 (.Q0 (.A0 (kS jO) (.A0 (kI 1) .B0))) .B0))))))) (.V1 (.Q0 (.A0 (.F0 vH) (.A0 (.F0 Mi) .B0))) (.Q0 (.A0 (.Q0 (.A0 (kS Z9) (.A0 (kS xE) (.A0 (.Q0 .B0) (.A0 (.Q0 (.A0 (.v0 (.Q0 (.A0 (.Z0 P7) (.A0 (.Z0 W3) .B0)))) .B0)) .B0))))) (.A0 (.M1 (.A0 (.Q0 (.A0 (kS W3) (.A0 (.Q0 (.A0 (kS zK) .B0)) .B0))) .B0)) .B0))) (.V1 (.w0 (.Z1 jS (.F0 c6)) (kS VQ)) (.K2 (.v0 (.Y0 756)) (.A0 (kS VQ) (.A0 (.Q0 .B0) (.A0 (.F0 Mi) (.A0 (.F0 Mi) (.A0 (.Q0 (.A0 (.v0 (.Q0 (.A0 (.Z0 P7) (.A0 (.Z0 W3) .B0)))) (.A0 (.v0 (.Q0 (.A0 (.Z0 lB) (.A0 (.Z0 tC) .B0)))) .B0))) (.A0 (.Q0 (.A0 (kS KA) (.A0 (.v0 (.Q0 (.A0 (.Z0 P7) (.A0 (.Z0 W3) .B0)))) .B0))) (.A0 (.v0 .H0) (.A0 (.v0 (.O3 I0)) .B0))))))))) (.V1 (.w0 (.Z1 jS (.F0 c6)) (kS Dc)) (.K2 (.v0 (.Y0 756)) (.A0 (kS Dc) (.A0 (.Q0 .B0) (.A0 (.F0 rS) (.A0 (.F0 rS) (.A0 (.Q0 (.A0 (.Q0 (.A0 (kS KA) (.A0 (.v0 (.Q0 (.A0 (.Z0 P7) (.A0 (.Z0 W3) .B0)))) .B0))) (.A0 (.v0 (.Q0 (.A0 (.Z0 P7) (.A0 (.Z0 iJ) .B0)))) .B0))) (.A0 (.Q0 (.A0 (kS SE) (.A0 (.Q0 (.A0 (.v0 (.Q0 (.A0 (.Z0 P7) (.A0 (.Z0 iJ) .B0)))) (.A0 (.v0 (.Q0 (.A0 (.Z0 P7) (.A0 (.Z0 W3) .B0)))) .B0))) .B0))) (.A0 (.v0 .H0) (.A0 (.v0 (.O3 I0)) .B0))))))))) (.V1 (.w0 (.Z1 jS (.F0 c6)) (kS Ec)) (.K2 (.v0 (.Y0 756)) (.A0 (kS Ec) (.A0 (.Q0 .B0) (.A0 (.M1 .B0) (.A0 (.M1 .B0) (.A0 (.Q0 .B0) (.A0 (.Q0 (.A0 (kS gJ) .B0)) (.A0 (.v0 .H0) (.A0 (.v0 (.O3 I0)) .B0))))))))) (.V1 (.Q0 (.A0 (.F0 U30) (.A0 (.F0 u5) .B0))) (.Q0 (.A0 (.Q0 (.A0 (.v0 (.Q0 (.A0 (.Z0 P7) (.A0 (.Z0 W3) .B0)))) (.A0 (.v0 (.Q0 (.A0 (.Z0 P7) (.A0 (.Z0 iJ) .B0)))) .B0))) (.A0 (kS Ni) .B0))) (.V1 (.w0 (.Z1 jS (.F0 c6)) (.F0 u5)) (.K2 (.v0 (.Y0 756)) (.A0 (.F0 u5) (.A0 (.Q0 .B0) (.A0 (.F0 rS) (.A0 (.iE (.F0 rS) (kI 1) (.v0 .H0)) (.A0 (.F0 U30) (.A0 (.Q0 (.A0 (kS SE) (.A0 (.Q0 (.A0 (.F0 vH) (.A0 (.v0 (.Q0 (.A0 (.Z0 P7) (.A0 (.Z0 iJ) .B0)))) .B0))) .B0))) (.A0 (.v0 .H0) (.A0 (.v0 (.O3 I0)) .B0))))))))) (.V1 (.F0 Fc) (.Q0 (.A0 (kS P7) (.A0 (kS vK) .B0))) (.V1 (.F0 l8) (.K2 (.v0 (.Y0 756)) (.A0 (kS VE0) (.A0 (.Q0 .B0) (.A0 (.M1 (.A0 (.Q0 (.A0 (kS vK) (.A0 (.Q0 (.A0 (kS zK) .B0)) .B0))) .B0)) (.A0 (.M1 .B0) (.A0 (.Q0 (.A0 (.F0 Fc) (.A0 (.v0 (.Q0 (.A0 (.Z0 lB) (.A0 (.Z0 tC) .B0)))) .B0))) (.A0 (.Q0 (.A0 (kS KA) (.A0 (.F0 Fc) .B0))) (.A0 (kS jr) (.A0 (.v0 (.O3 R0)) .B0))))))))) (.V1 (.w0 (.Z1 tE (.F0 c6)) (kS zK)) (.K2 (.v0 (.Y0 777)) (.A0 (kS zK) (.A0 (.Q0 .B0) (.A0 (.H2 (.A0 (kS lO) (.A0 (.F0 l8) .B0))) (.A0 (.H2 .B0) .B0))))) (.V1 (.Z1 kM (.F0 c6)) (.M1 (.A0 (.K2 (.v0 (.Y0 799)) (.A0 (kI 0) (.A0 (.Q0 .B0) (.A0 (.M1 .B0) (.A0 (kS zK) (.A0 (.Q0 .B0) (.A0 (.v0 (.Q0 (.A0 (.Z0 lB) (.A0 (.Z0 tC) .B0)))) (.A0 (.H2 .B0) .B0)))))))) (.A0 (.K2 (.v0 (.Y0 799)) (.A0 (kI 1) (.A0 (.Q0 .B0) (.A0 (.F0 Mi) (.A0 (kS zK) (.A0 (.Q0 .B0) (.A0 (.Q0 (.A0 (kS KA) (.A0 (.v0 (.Q0 (.A0 (.Z0 P7) (.A0 (.Z0 W3) .B0)))) .B0))) (.A0 (.H2 .B0) .B0)))))))) .B0))) (.B6 (.F4 .VI UQ (.Z1 kM (.F0 c6)) (.A0 (.K2 (.v0 (.Y0 799)) (.A0 (kI 2) (.A0 (.Q0 .B0) (.A0 (.M1 (.A0 (.Q0 (.A0 (kS W3) (.A0 (.Q0 .B0) .B0))) .B0)) (.A0 (.v0 .H0) (.A0 (.Q0 .B0) (.A0 (.F0 vH) (.A0 (.H2 (.A0 (kS sS) (.A0 (kS Ni) .B0))) .B0)))))))) .B0)) (.U1 (.F0 c6))))))))))))))))))))
def yF0:S:=(.V1 (.F0 VV) (.K2 (.v0 (.Y0 828)) .B0) (.V1 (.Z1 WQ (.F0 VV)) (.qA 0) (.U1 (.K2 (.v0 (.Y0 693)) (.A0 (.K2 (.v0 (.Y0 871)) .B0) (.A0 (.v0 (.Z0 1)) (.A0 (.Q0 (.A0 (kS Z9) (.A0 (kS xE) (.A0 (.Q0 .B0) (.A0 (.Q0 (.A0 (.v0 (.Q0 (.A0 (.Z0 lB) (.A0 (.Z0 tC) .B0)))) .B0)) .B0))))) (.A0 (.H2 (.A0 (kS ZV) (.A0 (.Q0 (.A0 (kS zK) .B0)) .B0))) (.A0 (.F0 VV) .B0)))))))))
def zF0:S:=(.V1 (.Q0 (.A0 (.F0 rS) (.A0 (.F0 vH) .B0))) (.Q0 (.A0 (.M1 (.A0 (kS W3) (.A0 (kS iJ) .B0))) (.A0 (.Q0 (.A0 (kS Z9) (.A0 (kS xE) (.A0 (.Q0 .B0) (.A0 (.Q0 (.A0 (.v0 (.Q0 (.A0 (.Z0 P7) (.A0 (.Z0 W3) .B0)))) .B0)) .B0))))) .B0))) (.V1 (.F0 sS) (.M1 (.A0 (.Q0 (.A0 (kS lS) (.A0 (kS Ni) .B0))) (.A0 (.F0 rS) (.A0 (.M1 (.A0 (.v0 (.Q0 (.A0 (.Z0 P7) (.A0 (.Z0 W3) .B0)))) (.A0 (.v0 (.Q0 (.A0 (.Z0 P7) (.A0 (.Z0 iJ) .B0)))) .B0))) (.A0 (.Q0 (.A0 (kS SE) (.A0 (.Q0 (.A0 (.F0 vH) (.A0 (.v0 (.Q0 (.A0 (.Z0 P7) (.A0 (.Z0 iJ) .B0)))) .B0))) .B0))) .B0))))) (.V1 (.F0 lO) (.M1 (.A0 (.M1 (.A0 (kS W3) .B0)) (.A0 (.M1 (.A0 (.v0 (.Q0 (.A0 (.Z0 P7) (.A0 (.Z0 W3) .B0)))) (.A0 (.v0 (.Q0 (.A0 (.Z0 lB) (.A0 (.Z0 tC) .B0)))) .B0))) (.A0 (.Q0 (.A0 (kS KA) (.A0 (.v0 (.Q0 (.A0 (.Z0 P7) (.A0 (.Z0 W3) .B0)))) .B0))) .B0)))) (.U1 (.M1 (.A0 (.M1 (.A0 (.M1 (.A0 (kS VQ) .B0)) (.A0 (.Q0 (.A0 (kS lS) (.A0 (kS VQ) .B0))) (.A0 (.M1 (.A0 (kS W3) .B0)) (.A0 (.M1 (.A0 (.v0 (.Q0 (.A0 (.Z0 P7) (.A0 (.Z0 W3) .B0)))) (.A0 (.v0 (.Q0 (.A0 (.Z0 lB) (.A0 (.Z0 tC) .B0)))) .B0))) (.A0 (.Q0 (.A0 (kS KA) (.A0 (.v0 (.Q0 (.A0 (.Z0 P7) (.A0 (.Z0 W3) .B0)))) .B0))) .B0)))))) (.A0 (.M1 (.A0 (.M1 (.A0 (kS Dc) .B0)) (.A0 (.Q0 (.A0 (kS lS) (.A0 (kS Dc) .B0))) (.A0 (.F0 rS) (.A0 (.M1 (.A0 (.Q0 (.A0 (kS KA) (.A0 (.v0 (.Q0 (.A0 (.Z0 P7) (.A0 (.Z0 W3) .B0)))) .B0))) (.A0 (.v0 (.Q0 (.A0 (.Z0 P7) (.A0 (.Z0 iJ) .B0)))) .B0))) (.A0 (.Q0 (.A0 (kS SE) (.A0 (.Q0 (.A0 (.v0 (.Q0 (.A0 (.Z0 P7) (.A0 (.Z0 iJ) .B0)))) (.A0 (.v0 (.Q0 (.A0 (.Z0 P7) (.A0 (.Z0 W3) .B0)))) .B0))) .B0))) .B0)))))) (.A0 (.M1 (.A0 (.M1 (.A0 (kS Ec) .B0)) (.A0 (.Q0 (.A0 (kS lS) (.A0 (kS Ec) .B0))) (.A0 (.M1 .B0) (.A0 (.M1 .B0) (.A0 (.Q0 (.A0 (kS gJ) .B0)) .B0)))))) (.A0 (.M1 (.A0 (.M1 (.A0 (kS xE) .B0)) (.A0 (kI 0) (.A0 (.M1 (.A0 (kS W3) .B0)) (.A0 (.M1 (.A0 (.v0 (.Q0 (.A0 (.Z0 P7) (.A0 (.Z0 W3) .B0)))) (.A0 (.v0 (.Q0 (.A0 (.Z0 lB) (.A0 (.Z0 tC) .B0)))) .B0))) (.A0 (.F0 vH) .B0)))))) (.A0 (.M1 (.A0 (.M1 (.A0 (kS jO) (.A0 (kS T30) .B0))) (.A0 (kI 1) (.A0 (.M1 (.A0 (kS W3) .B0)) (.A0 (.M1 (.A0 (.Q0 (.A0 (kS KA) (.A0 (.v0 (.Q0 (.A0 (.Z0 P7) (.A0 (.Z0 W3) .B0)))) .B0))) .B0)) (.A0 (.Q0 (.A0 (kS Z9) (.A0 (kS jO) (.A0 (.Q0 .B0) (.A0 (.Q0 (.A0 (.v0 (.Q0 (.A0 (.Z0 P7) (.A0 (.Z0 W3) .B0)))) .B0)) .B0))))) .B0)))))) (.A0 (.L6 .n6 (.M1 (.A0 (.M1 (.A0 (kS xE) (.A0 (kS sS) .B0))) .B0)) (.F0 sS)) (.A0 (.L6 .n6 (.M1 (.A0 (.M1 (.A0 (kS vK) (.A0 (kS sS) .B0))) .B0)) (.F0 sS)) (.A0 (.L6 .n6 (.M1 (.A0 (.M1 (.A0 (kS zK) (.A0 (kS lO) .B0))) (.A0 (kS mS) .B0))) (.F0 lO)) (.A0 (.L6 .n6 (.M1 (.A0 (.M1 (.A0 (kS tC) (.A0 (kS lO) .B0))) (.A0 (kS mS) .B0))) (.F0 lO)) (.A0 (.L6 .n6 (.M1 (.A0 (.M1 (.A0 (kS ZV) (.A0 (kS lO) .B0))) (.A0 (kS mS) .B0))) (.F0 lO)) (.A0 (.M1 (.A0 (.M1 (.A0 (kS Hi) (.A0 (kS y20) .B0))) (.A0 (kS KA) (.A0 (.M1 (.A0 (kS W3) .B0)) (.A0 (.M1 (.A0 (.v0 (.Q0 (.A0 (.Z0 P7) (.A0 (.Z0 W3) .B0)))) .B0)) (.A0 (.Q0 (.A0 (kS KA) (.A0 (.v0 (.Q0 (.A0 (.Z0 P7) (.A0 (.Z0 W3) .B0)))) .B0))) .B0)))))) .B0))))))))))))))))
def AG0:S:=(.K3 (.D8 (.S1 .eq (.w0 (.F0 sH) (kI 0)) (kS P7)) (.S1 .f8 (.w0 (.F0 sH) (kI 1)) (.M1 (.A0 (kS W3) (.A0 (kS iJ) .B0))))) (.U1 (.S1 .eq (.F4 .LU u20 (.F0 WC) (.A0 (.w0 (.F0 sH) (kI 1)) (.A0 (.F0 E3) .B0))) (.F0 E3))) .B0 (.K3 (.D8 (.S1 .eq (.w0 (.F0 sH) (kI 0)) (kS KA)) (.S1 .eq (.w0 (.F0 E3) (kI 0)) (kS KA))) (.U1 (.K2 (.v0 (.Y0 892)) (.A0 (.w0 (.F0 sH) (kI 1)) (.A0 (.w0 (.F0 E3) (kI 1)) (.A0 (.F0 WC) .B0))))) .B0 (.U1 (.S1 .eq (.F0 sH) (.F0 E3)))))
def BG0:S:=(.K3 (.S1 .eq (.w0 (.F0 W3) (kI 0)) (kS P7)) (.U1 (.F4 .o9 Ur (.F0 WC) (.A0 (.w0 (.F0 W3) (kI 1)) (.A0 (.F0 W3) .B0)))) .B0 (.K3 (.S1 .eq (.w0 (.F0 W3) (kI 0)) (kS KA)) (.U1 (.Q0 (.A0 (kS KA) (.A0 (.K2 (.v0 (.Y0 897)) (.A0 (.w0 (.F0 W3) (kI 1)) (.A0 (.F0 WC) .B0))) .B0)))) .B0 (.K3 (.S1 .eq (.w0 (.F0 W3) (kI 0)) (kS SE)) (.U1 (.Q0 (.A0 (kS SE) (.A0 (.mk .Q0 (.T4 (.J7 (.K2 (.v0 (.Y0 897)) (.A0 (.F0 WD) (.A0 (.F0 WC) .B0))) (.F0 WD) .B0 (.T4 (.w0 (.F0 W3) (kI 1)))))) .B0)))) .B0 (.U1 (.K7 (.S1 .eq (.w0 (.F0 W3) (kI 0)) (kS Z9)) (.Q0 (.A0 (kS Z9) (.A0 (.w0 (.F0 W3) (kI 1)) (.A0 (.Q0 .B0) (.A0 (.mk .Q0 (.T4 (.J7 (.K2 (.v0 (.Y0 897)) (.A0 (.F0 WD) (.A0 (.F0 WC) .B0))) (.F0 WD) .B0 (.T4 (.w0 (.F0 W3) (kI 3)))))) .B0))))) (.F0 W3))))))
def CG0:S:=(.V1 (.F0 aV) (.K7 (.S1 .gt (.F0 fO) (kI 0)) (.K2 (.v0 (.Y0 846)) (.A0 (.F0 BC) (.A0 (kI 6) .B0))) (.K2 (.v0 (.Y0 846)) (.A0 (.F0 BC) (.A0 (kI 3) .B0)))) (.K3 (.S1 .lt (.F0 aV) (kI 3)) (.U1 (.w0 (.M1 (.A0 (.v0 (.Q0 (.A0 (.Z0 lB) (.A0 (.Z0 tC) .B0)))) (.A0 (.Q0 (.A0 (kS gJ) .B0)) (.A0 (.Q0 (.A0 (kS P7) (.A0 (kS ZV) .B0))) .B0)))) (.F0 aV))) .B0 (.U1 (.K7 (.S1 .lt (.F0 aV) (kI 5)) (.Q0 (.A0 (kS KA) (.A0 (.K2 (.v0 (.Y0 904)) (.A0 (.F0 BC) (.A0 (.L6 .w0 (.F0 fO) (kI 1)) .B0))) .B0))) (.Q0 (.A0 (kS Z9) (.A0 (kS xE) (.A0 (.Q0 .B0) (.A0 (.Q0 (.A0 (.K2 (.v0 (.Y0 904)) (.A0 (.F0 BC) (.A0 (.L6 .w0 (.F0 fO) (kI 1)) .B0))) .B0)) .B0)))))))))
def DG0:S:=(.K3 (.S1 .eq (.w0 (.F0 W3) (kI 0)) (kS KA)) (.U1 (.Q0 (.A0 (kS u5) (.A0 (kI 0) (.A0 (.Q0 (.A0 (.Q0 (.A0 (kS Hi) (.A0 (.Q0 .B0) (.A0 (.Q0 (.A0 (.K2 (.v0 (.Y0 911)) (.A0 (.w0 (.F0 W3) (kI 1)) .B0)) .B0)) .B0)))) .B0)) .B0))))) .B0 (.K3 (.S1 .eq (.w0 (.F0 W3) (kI 0)) (kS Z9)) (.U1 (.Q0 (.A0 (kS u5) (.A0 (kI 0) (.A0 (.Q0 (.A0 (.Q0 (.A0 (kS xE) (.A0 (.Q0 .B0) (.A0 (.Q0 (.A0 (.K2 (.v0 (.Y0 911)) (.A0 (.w0 (.w0 (.F0 W3) (kI 3)) (kI 0)) .B0)) .B0)) .B0)))) .B0)) .B0))))) .B0 (.U1 (.Q0 (.A0 (kS u5) (.A0 (kI 0) (.A0 (.Q0 (.A0 (.Q0 (.A0 (.w0 (.F0 W3) (.v0 (.j0 (.PB 0)))) (.A0 (.Q0 .B0) (.A0 (.Q0 .B0) .B0)))) .B0)) .B0)))))))
def EG0:S:=(.U1 (.or (.S1 .f8 (.F0 W3) (.M1 (.A0 (.v0 (.Q0 (.A0 (.Z0 lB) (.A0 (.Z0 tC) .B0)))) (.A0 (.Q0 (.A0 (kS P7) (.A0 (kS ZV) .B0))) .B0)))) (.D8 (.S1 .eq (.w0 (.F0 W3) (kI 0)) (kS KA)) (.K2 (.v0 (.Y0 918)) (.A0 (.w0 (.F0 W3) (kI 1)) .B0)))))
def FG0:S:=(.V1 (.Q0 (.A0 (.F0 VC) (.A0 (.F0 i6) (.A0 (.F0 Q7) (.A0 (.F0 qD) (.A0 (.F0 Cc) .B0)))))) (.F0 O9) (.K3 (.S1 .ne (.b1 .Z5 (.F0 UA)) (.b1 .Z5 (.F0 qD))) (.U1 (kS yK)) .B0 (.RE (.Q0 (.A0 (.F0 sH) (.A0 (.F0 E3) .B0))) (.pK (.F0 qD) (.F0 UA)) (.K3 (.hH (.K2 (.v0 (.Y0 892)) (.A0 (.F0 sH) (.A0 (.F0 E3) (.A0 (.F0 WC) .B0))))) (.U1 (kS yK)) .B0 .B0) (.V1 (.F0 Fc) (.mk .Q0 (.T4 (.J7 (.w0 (.F0 WC) (.F0 I6)) (.F0 I6) .B0 (.T4 (.F0 Q7))))) (.V1 (.F0 Gs) (.K7 (.or (.S1 .eq (.F0 i6) (kS mS)) (.S1 .eq (.F0 VC) (.M1 (.A0 (kS VQ) .B0)))) (.K2 (.v0 (.Y0 918)) (.A0 (.w0 (.F0 WC) (kS W3)) .B0)) (.v0 (.O3 I0))) (.K3 (.S1 .eq (.F0 i6) (kS mS)) (.U1 (.M1 (.A0 (.Q0 (.A0 (kS mS) (.A0 (kS zK) (.A0 (kS lO) (.A0 (.w0 (.F0 WC) (kS W3)) (.A0 (.Q0 .B0) .B0)))))) (.A0 (.K2 (.v0 (.Y0 897)) (.A0 (.F0 Cc) (.A0 (.F0 WC) .B0))) (.A0 (.F0 Gs) .B0))))) .B0 (.U1 (.M1 (.A0 (.K7 (.b1 .vg (.F0 i6)) (.L6 .n6 (.F0 i6) (.Q0 (.A0 (.F0 Fc) .B0))) (.F0 i6)) (.A0 (.K2 (.v0 (.Y0 897)) (.A0 (.F0 Cc) (.A0 (.F0 WC) .B0))) (.A0 (.F0 Gs) .B0)))))))))))
def GG0:S:=(.XO (.V1 (.F0 i6) (.K2 (.v0 (.Y0 378)) (.A0 (.F0 R4) (.A0 (.F0 sI) (.A0 (.v0 .H0) .B0)))) .B0) (.oU 64 (.Z0 yK) (.oU 52 (.Z0 I6) .B0)) (.V1 (.F0 W3) (.F4 .K5 iF (.F0 R4) (.A0 (.w0 (.F0 i6) (kI 1)) .B0)) (.K3 (.S1 .ne (.w0 (.F0 i6) (kI 2)) (kI 5)) (.U1 (kS Di)) .B0 (.K3 (.S1 .eq (.w0 (.F0 i6) (kI 0)) (kS UY)) (.V1 (.F0 UA) (.mk .Q0 (.T4 (.J7 (.F4 .K5 iF (.F0 R4) (.A0 (.F0 l8) .B0)) (.F0 l8) .B0 (.T4 (.w0 (.w0 (.F0 i6) (kI 3)) (.v0 (.j0 (.PB 0)))))))) (.V1 (.F0 Ic) (.K7 (.S1 .eq (.w0 (.w0 (.F0 i6) (kI 3)) (kI 0)) (kS lS)) (.L6 .n6 (.iE (.w0 (.F0 i6) (kI 3)) (.v0 .H0) (kI 2)) (.Q0 (.A0 (.F0 UA) .B0))) (.L6 .n6 (.iE (.w0 (.F0 i6) (kI 3)) (.v0 .H0) (kI 3)) (.Q0 (.A0 (.F4 .K5 iF (.F0 R4) (.A0 (.w0 (.w0 (.F0 i6) (kI 3)) (kI 3)) .B0)) (.A0 (.F0 UA) .B0))))) (.V1 (.F0 tH) (.w0 (.F0 i6) (kI 4)) .B0))) (.K3 (.S1 .eq (.w0 (.F0 i6) (kI 0)) (kS Z9)) (.V1 (.Q0 (.A0 (.F0 Ic) (.A0 (.F0 tH) .B0))) (.Q0 (.A0 (.w0 (.F0 i6) (kI 3)) (.A0 (.mk .Q0 (.T4 (.J7 (.F0 l8) (.Q0 (.A0 (.F0 bS) (.A0 (.F0 l8) .B0))) .B0 (.T4 (.w0 (.F0 i6) (kI 4)))))) .B0))) (.K3 (.S1 .ne (.J7 (.F0 bS) (.Q0 (.A0 (.F0 bS) (.A0 (.F0 l8) .B0))) .B0 (.T4 (.w0 (.F0 i6) (kI 4)))) (.mk .M1 (.aa (.b1 .Z5 (.F0 tH))))) (.U1 (kS WE0)) .B0 .B0)) (.V1 (.Q0 (.A0 (.F0 Ic) (.A0 (.F0 tH) .B0))) (.Q0 (.A0 (.w0 (.F0 i6) (kI 0)) (.A0 (.Q0 (.A0 (.w0 (.F0 i6) (kI 3)) .B0)) .B0))) .B0) .B0) (.K3 (.S1 .ne (.F0 tH) (.F0 WE)) (.U1 (kS tH)) .B0 (.XO (.B6 (.K2 (.v0 (.Y0 266)) (.A0 (.F0 R4) .B0)) .B0) (.wg 76 (.A0 (.F0 Ic) (.A0 (.F0 W3) (.A0 (.v0 (.O3 R0)) .B0))) .B0) (.U1 (.M1 (.A0 (.F0 Ic) (.A0 (.F0 W3) (.A0 (.v0 (.O3 I0)) .B0)))))))))))
def HG0:S:=(.V1 (.Q0 (.A0 (.F0 VC) (.A0 (.F0 i6) (.A0 (.F0 Q7) (.A0 (.F0 qD) (.A0 (.F0 Cc) .B0)))))) (.F0 O9) (.V1 (.Q0 (.A0 (.F0 WC) (.A0 (.F0 R4) (.A0 (.F0 E3) .B0)))) (.Q0 (.A0 (.H2 (.A0 (kS W3) (.A0 (.K2 (.v0 (.Y0 904)) (.A0 (.F0 BC) (.A0 (kI 2) .B0))) (.A0 (kS iJ) (.A0 (.K2 (.v0 (.Y0 904)) (.A0 (.F0 BC) (.A0 (kI 1) .B0))) .B0))))) (.A0 (.K2 (.v0 (.Y0 878)) .B0) (.A0 (.H2 .B0) .B0)))) (.K3 (.S1 .f8 (.w0 (.F0 VC) (kI 0)) (.M1 (.A0 (kS tC) (.A0 (kS ZV) (.A0 (kS vK) .B0))))) (.V1 (.w0 (.F0 E3) (kS W3)) (.w0 (.H2 (.A0 (kS tC) (.A0 (.v0 (.Q0 (.A0 (.Z0 lB) (.A0 (.Z0 tC) .B0)))) (.A0 (kS ZV) (.A0 (.Q0 (.A0 (kS P7) (.A0 (kS ZV) .B0))) (.A0 (kS vK) (.A0 (.v0 (.Q0 (.A0 (.Z0 lB) (.A0 (.Z0 tC) .B0)))) .B0))))))) (.w0 (.F0 VC) (kI 0))) .B0) .B0 (.B6 (.F4 .JF br (.F0 WC) (.A0 (.F0 E3) .B0)) (.V1 (.F0 UA) (.J7 (.K2 (.v0 (.Y0 897)) (.A0 (.F0 sH) (.A0 (.F0 WC) .B0))) (.F0 sH) .B0 (.T4 (.F0 qD))) (.V1 (.F0 aV) (.K2 (.v0 (.Y0 846)) (.A0 (.F0 BC) (.A0 (kI 6) .B0))) (.K3 (.D8 (.S1 .eq (.F0 aV) (kI 0)) (.S1 .ne (.F0 UA) (.M1 .B0))) (.V1 (.w0 (.F0 UA) (.K2 (.v0 (.Y0 846)) (.A0 (.F0 BC) (.A0 (.b1 .Z5 (.F0 UA)) .B0)))) (.K2 (.v0 (.Y0 904)) (.A0 (.F0 BC) (.A0 (kI 2) .B0))) .B0) (.K3 (.S1 .eq (.F0 aV) (kI 1)) (.V1 (.F0 UA) (.K7 (.S1 .eq (.K2 (.v0 (.Y0 846)) (.A0 (.F0 BC) (.A0 (kI 2) .B0))) (kI 0)) (.L6 .n6 (.F0 UA) (.M1 (.A0 (.v0 (.Q0 (.A0 (.Z0 lB) (.A0 (.Z0 tC) .B0)))) .B0))) (.iE (.F0 UA) (kI 1) (.v0 .H0))) .B0) .B0 .B0) (.V1 (.F0 Oi) (.J7 (.M1 (.A0 (.F0 I6) (.A0 (.Q0 .B0) (.A0 (.Q0 .B0) .B0)))) (.F0 I6) .B0 (.T4 (.F0 VC))) (.K3 (.D8 (.S1 .eq (.F0 E3) (.H2 .B0)) (.D8 (.S1 .eq (.K2 (.v0 (.Y0 846)) (.A0 (.F0 BC) (.A0 (kI 3) .B0))) (kI 0)) (.D8 (.S1 .ne (.F0 Q7) (.M1 .B0)) (.S1 .rI (.F0 i6) (.M1 (.A0 (kS mS) (.A0 (kS KA) .B0))))))) (.K3 (.S1 .eq (.F0 VC) (.M1 (.A0 (kS xE) (.A0 (kS sS) .B0)))) (.V1 (.w0 (.F0 E3) (kS W3)) (.w0 (.F0 WC) (kS W3)) (.V1 (.w0 (.w0 (.F0 Oi) (kI 0)) (kI 2)) (.Q0 (.A0 (.K2 (.v0 (.Y0 911)) (.A0 (.w0 (.F0 E3) (kS W3)) .B0)) .B0)) .B0)) (.V1 (.F0 E3) (.mk .H2 (.T4 (.J7 (.Q0 (.A0 (.F0 I6) (.A0 (.w0 (.F0 WC) (.F0 I6)) .B0))) (.F0 I6) .B0 (.T4 (.F0 Q7))))) (.V1 (.w0 (.w0 (.F0 Oi) (.v0 (.j0 (.PB 0)))) (kI 2)) (.mk .Q0 (.T4 (.J7 (.K2 (.v0 (.Y0 911)) (.A0 (.w0 (.F0 WC) (.F0 I6)) .B0)) (.F0 I6) .B0 (.T4 (.F0 Q7))))) .B0)) .B0) .B0 (.V1 (.F0 WE) (.mk .Q0 (.T4 (.J7 (.Q0 (.A0 (kS Ji) (.A0 (.F0 W3) (.A0 (.L6 .n6 (kI 7) (.F0 bS)) (.A0 (kI 0) .B0))))) (.Q0 (.A0 (.F0 bS) (.A0 (.F0 W3) .B0))) .B0 (.wX (.F0 UA))))) (.V1 (.F0 u5) (.Q0 (.A0 (kS u5) (.A0 (kI 5) (.A0 (.mk .Q0 (.T4 (.J7 (.mk .Q0 (.T4 (.F0 V30))) (.F0 V30) .B0 (.T4 (.F0 Oi))))) .B0)))) (.V1 (.F0 sI) (.Q0 (.A0 (kS UY) (.A0 (kI 5) (.A0 (.F0 u5) (.A0 (.mk .Q0 (.T4 (.J7 (.Q0 (.A0 (kS E3) (.A0 (kI 0) (.A0 (.F0 TY) .B0)))) (.F0 TY) .B0 (.T4 (.F0 WE))))) .B0))))) (.V1 (.F0 Qi) (.K2 (.v0 (.Y0 923)) (.A0 (.F0 O9) (.A0 (.mk .H2 (.T4 (.F0 E3))) (.A0 (.F0 UA) .B0)))) (.U1 (.S1 .eq (.K2 (.v0 (.Y0 928)) (.A0 (.F0 R4) (.A0 (.F0 sI) (.A0 (.F0 WE) .B0)))) (.F0 Qi))))))))))))))))
def IG0:S:=(.V1 (.F0 mJ) (.M1 (.A0 (.Q0 (.A0 (.M1 (.A0 (kS jO) (.A0 (kS S30) .B0))) (.A0 (kS yK) .B0))) (.A0 (.Q0 (.A0 (.M1 (.A0 (kS bS) .B0)) (.A0 (kS I6) .B0))) (.A0 (.Q0 (.A0 (.M1 (.A0 (kS xE) (.A0 (kS W30) .B0))) (.A0 (kS yK) .B0))) (.A0 (.Q0 (.A0 (.M1 (.A0 (kS zK) (.A0 (kS W30) .B0))) (.A0 (kS I6) .B0))) .B0))))) (.B6 (.F4 .VI UQ (.F0 mJ) (.A0 (.Q0 (.A0 (.M1 (.A0 (kS gJ) (.A0 (kS lO) .B0))) (.A0 (kS yK) .B0))) .B0)) (.RE (.Q0 (.A0 (.F0 VC) (.A0 (.F0 Qi) .B0))) (.T4 (.F0 mJ)) (.V1 (.F0 sI) (.Q0 (.A0 (kS UY) (.A0 (kI 5) (.A0 (.Q0 (.A0 (kS u5) (.A0 (kI 5) (.A0 (.mk .Q0 (.T4 (.J7 (.Q0 (.A0 (.F0 I6) (.A0 (.Q0 .B0) (.A0 (.Q0 .B0) .B0)))) (.F0 I6) .B0 (.T4 (.F0 VC))))) .B0)))) (.A0 (.Q0 .B0) .B0))))) (.K3 (.S1 .ne (.K2 (.v0 (.Y0 928)) (.A0 (.K2 (.v0 (.Y0 878)) .B0) (.A0 (.F0 sI) (.A0 (.Q0 .B0) .B0)))) (.F0 Qi)) (.U1 (.v0 (.O3 R0))) .B0 .B0)) (.U1 (.S1 .eq (.K2 (.v0 (.Y0 928)) (.A0 (.K2 (.v0 (.Y0 878)) .B0) (.A0 (.Q0 (.A0 (kS UY) (.A0 (kI 5) (.A0 (.Q0 (.A0 (kS lB) (.A0 (kI 5) (.A0 (kI 1) (.A0 (.v0 .H0) .B0))))) (.A0 (.Q0 .B0) .B0))))) (.A0 (.Q0 .B0) .B0)))) (kS yK))))))
def e36:Y3:=(.fn (.N1 Q2 (.N1 xh (.XN G6 (.j0 (.O4 0)) .B0))) Js)
def e39:Y3:=.no
def e52:Y3:=(.O2 (.mk (.kv pG .H0 (.kv qG .H0 (.kv rG .H0 (.kv k2 .H0 (.kv pG .H0 (.kv qG .H0 (.kv jJ (.Y0 36) (.kv rG .H0 (.kv kJ .H0 (.kv k2 .H0 .B0)))))))))) I0 36))
def e64:Y3:=(.O2 (.mk (.kv pG .H0 (.kv qG .H0 (.kv rG .H0 (.kv k2 .H0 (.kv pG .H0 (.kv qG .H0 (.kv jJ (.Y0 36) (.kv rG .H0 (.kv kJ .H0 (.kv k2 .H0 .B0)))))))))) I0 36))
def e76:Y3:=(.O2 (.mk (.kv pG .H0 (.kv qG .H0 (.kv rG .H0 (.kv k2 .H0 (.kv pG .H0 (.kv qG .H0 (.kv jJ (.Y0 36) (.kv rG .H0 (.kv kJ .H0 (.kv k2 .H0 .B0)))))))))) I0 36))
def e85:Y3:=(.fn (.N1 l8 (.N1 nB .B0)) f85)
def e92:Y3:=(.fn (.N1 l8 (.N1 nB .B0)) f92)
def e99:Y3:=(.fn (.N1 sH (.N1 Ai (.N1 VC (.N1 jA .B0)))) f99)
def JG0:Y3:=(.fn (.N1 SV (.N1 Tr (.N1 VC (.N1 jA .B0)))) XE0)
def KG0:Y3:=(.fn (.N1 u5 .B0) YE0)
def LG0:Y3:=(.fn (.N1 zB .B0) ZE0)
def MG0:Y3:=(.fn (.N1 zB (.N1 dS (.N1 W3 .B0))) aE0)
def NG0:Y3:=(.fn (.N1 W3 .B0) bE0)
def OG0:Y3:=(.fn (.N1 Q2 (.N1 c6 (.N1 lJ .B0))) cE0)
def PG0:Y3:=(.fn (.N1 Q2 (.N1 y9 (.N1 W3 .B0))) dE0)
def QG0:Y3:=(.fn (.N1 Q2 (.N1 zB (.N1 jA .B0))) eE0)
def RG0:Y3:=(.fn (.N1 Q2 (.N1 y9 (.N1 lM (.N1 W3 (.N1 fO .B0))))) fE0)
def SG0:Y3:=(.fn (.N1 Q2 (.N1 y9 (.N1 lM (.N1 W3 (.N1 fO .B0))))) gE0)
def TG0:Y3:=(.O2 (.mk (.kv pG .H0 (.kv qG .H0 (.kv jJ (.Y0 146) (.kv p20 (.Y0 153) (.kv o20 (.Y0 158) (.kv Xr (.Y0 165) (.kv jb (.Y0 170) (.kv rG .H0 (.kv gO .H0 (.kv kJ .H0 (.kv k2 .H0 .B0))))))))))) R0 146))
def UG0:Y3:=(.fn (.N1 E3 .B0) hE0)
def VG0:Y3:=(.fn (.N1 E3 (.N1 tH .B0)) iE0)
def WG0:Y3:=(.fn (.N1 E3 (.N1 WC .B0)) jE0)
def XG0:Y3:=(.i7 3 (.N1 E3 (.N1 Ci .B0)) kE0)
def YG0:Y3:=(.fn (.N1 pJ .B0) lE0)
def ZG0:Y3:=(.fn (.N1 E3 .B0) mE0)
def aG0:Y3:=(.fn (.N1 pJ .B0) nE0)
def bG0:Y3:=(.i7 5 (.N1 E3 .B0) oE0)
def cG0:Y3:=(.fn (.N1 E3 (.N1 TV (.N1 c6 .B0))) pE0)
def dG0:Y3:=(.fn (.N1 E3 (.N1 TV (.N1 c6 .B0))) qE0)
def eG0:Y3:=(.fn (.N1 N9 .B0) rE0)
def fG0:Y3:=(.fn (.N1 R4 (.N1 Q7 (.N1 E3 (.N1 G6 .B0)))) sE0)
def gG0:Y3:=(.fn (.N1 R4 (.N1 Q7 (.N1 XD (.N1 G6 .B0)))) tE0)
def hG0:Y3:=(.fn (.N1 R4 .B0) uE0)
def iG0:Y3:=(.fn (.N1 R4 (.N1 pB (.N1 N9 .B0))) vE0)
def jG0:Y3:=(.fn (.N1 Q2 (.N1 gS (.N1 qD (.N1 iS .B0)))) wE0)
def kG0:Y3:=(.O2 (.mk (.kv pG .H0 (.kv qG .H0 (.kv jJ (.Y0 287) (.kv rG .H0 (.kv gO .H0 (.kv kJ .H0 (.kv k2 .H0 .B0))))))) R0 287))
def lG0:Y3:=(.fn (.N1 R4 (.N1 vE (.N1 XD (.N1 gS .B0)))) xE0)
def mG0:Y3:=(.fn (.N1 R4 (.N1 u5 (.N1 E3 (.N1 G6 .B0)))) yE0)
def nG0:Y3:=(.fn (.N1 R4 (.N1 zB (.N1 u5 (.N1 W3 (.N1 E3 (.N1 G6 .B0)))))) zE0)
def oG0:Y3:=(.fn (.N1 R4 (.N1 y9 (.N1 lM (.N1 W3 (.N1 G6 .B0))))) AF0)
def pG0:Y3:=(.fn (.N1 R4 (.N1 y9 (.N1 I6 (.N1 W3 (.N1 E3 (.N1 G6 .B0)))))) BF0)
def qG0:Y3:=(.fn (.N1 R4 (.N1 W3 (.N1 I6 .B0))) CF0)
def rG0:Y3:=(.fn (.N1 R4 (.N1 W3 (.N1 I6 .B0))) DF0)
def sG0:Y3:=(.fn (.N1 R4 (.N1 W3 (.N1 I6 (.N1 E3 (.N1 G6 .B0))))) EF0)
def tG0:Y3:=(.fn (.N1 R4 (.N1 pB (.N1 N9 .B0))) FF0)
def uG0:Y3:=(.fn (.N1 R4 (.N1 pB (.N1 qD (.N1 WE .B0)))) GF0)
def vG0:Y3:=(.fn (.N1 R4 (.N1 u5 (.N1 nJ .B0))) HF0)
def wG0:Y3:=(.fn (.N1 R4 (.N1 pB (.N1 pS (.N1 WE .B0)))) IF0)
def xG0:Y3:=(.fn (.N1 R4 (.N1 pB (.N1 WE (.N1 tG .B0)))) JF0)
def yG0:Y3:=(.fn (.N1 R4 (.N1 sI (.N1 A30 .B0))) KF0)
def zG0:Y3:=(.fn (.N1 Q2 .B0) LF0)
def AH0:Y3:=(.fn (.N1 Q2 .B0) MF0)
def BH0:Y3:=(.fn (.N1 Q2 (.N1 E3 .B0)) NF0)
def CH0:Y3:=(.i7 2 (.N1 Q2 (.N1 E3 .B0)) OF0)
def DH0:Y3:=(.i7 4 (.N1 Q2 (.N1 qM (.N1 E3 .B0))) PF0)
def EH0:Y3:=(.fn (.N1 Q2 (.N1 qM (.N1 E3 .B0))) QF0)
def FH0:Y3:=(.fn (.N1 Q2 (.N1 l8 (.N1 nB .B0))) RF0)
def GH0:Y3:=(.i7 6 (.N1 Q2 (.N1 l8 (.N1 nB .B0))) SF0)
def HH0:Y3:=(.O2 (.mk (.kv pG .H0 (.kv qG .H0 (.kv jJ (.Y0 392) (.kv uH (.Y0 399) (.kv mD0 (.Y0 406) (.kv zb (.Y0 413) (.kv iF (.Y0 418) (.kv D30 (.Y0 425) (.kv sr (.Y0 432) (.kv E30 (.Y0 439) (.kv SY (.Y0 446) (.kv nD0 (.Y0 453) (.kv rG .H0 (.kv gO .H0 (.kv kJ .H0 (.kv k2 .H0 .B0)))))))))))))))) R0 392))
def IH0:Y3:=(.fn (.N1 Q2 (.N1 jF (.N1 uE (.N1 qS (.N1 KG (.N1 uH .B0)))))) TF0)
def JH0:Y3:=(.fn (.N1 Q2 (.N1 uG .B0)) UF0)
def KH0:Y3:=(.fn (.N1 Q2 .B0) VF0)
def LH0:Y3:=(.fn (.N1 Q2 (.N1 G6 (.N1 N9 .B0))) WF0)
def MH0:Y3:=(.fn (.N1 Q2 (.N1 G6 (.N1 O9 .B0))) XF0)
def NH0:Y3:=(.fn (.N1 Q2 (.N1 G6 (.N1 O9 (.N1 E3 .B0)))) YF0)
def OH0:Y3:=(.fn (.N1 Q2 (.N1 G6 (.N1 VC (.N1 O9 .B0)))) ZF0)
def PH0:Y3:=(.O2 (.mk (.kv pG .H0 (.kv qG .H0 (.kv jJ (.Y0 475) (.kv WQ (.Y0 480) (.kv qM (.Y0 487) (.kv u5 (.Y0 492) (.kv F30 (.Y0 499) (.kv Bc (.Y0 506) (.kv pS (.Y0 511) (.kv rG .H0 (.kv gO .H0 (.kv kJ .H0 (.kv k2 .H0 .B0))))))))))))) R0 475))
def QH0:Y3:=(.fn (.N1 jF (.N1 uE (.N1 qS (.N1 KG (.N1 uG (.XN uH .H0 .B0)))))) aF0)
def RH0:Y3:=(.fn (.N1 Q2 (.N1 c6 (.N1 uE (.N1 KG (.N1 lJ (.N1 VV .B0)))))) bF0)
def SH0:Y3:=(.fn (.N1 Q2 (.N1 sI (.N1 tG .B0))) cF0)
def TH0:Y3:=(.fn (.N1 Q2 .B0) dF0)
def UH0:Y3:=(.fn (.N1 Q2 (.N1 E3 .B0)) eF0)
def VH0:Y3:=(.fn (.N1 Q2 (.N1 l8 (.N1 nB (.N1 G6 .B0)))) fF0)
def WH0:Y3:=(.i7 8 (.N1 Q2 (.N1 uG .B0)) gF0)
def XH0:Y3:=(.fn (.N1 Q2 (.N1 u5 (.N1 E3 .B0))) hF0)
def YH0:Y3:=(.fn (.N1 Q2 (.N1 VY (.N1 N9 .B0))) iF0)
def ZH0:Y3:=(.fn (.N1 Q2 (.N1 N9 (.N1 G6 .B0))) jF0)
def aH0:Y3:=(.fn (.N1 Q2 (.N1 N9 (.N1 G6 .B0))) kF0)
def bH0:Y3:=(.fn (.N1 Q2 (.N1 i6 (.N1 E3 .B0))) lF0)
def cH0:Y3:=(.fn (.N1 Q2 (.N1 i6 (.N1 M9 (.N1 tG .B0)))) mF0)
def dH0:Y3:=(.O2 (.mk (.kv pG .H0 (.kv qG .H0 (.kv jJ (.Y0 540) (.kv kr (.Y0 547) (.kv DE0 (.Y0 554) (.kv uH (.Y0 561) (.kv iF (.Y0 568) (.kv SY (.Y0 575) (.kv Ei (.Y0 582) (.kv EE0 (.Y0 589) (.kv FE0 (.Y0 596) (.kv GE0 (.Y0 603) (.kv HE0 (.Y0 610) (.kv M30 (.Y0 617) (.kv Zr (.Y0 622) (.kv IE0 (.Y0 629) (.kv I30 (.Y0 636) (.kv B30 (.Y0 643) (.kv H30 (.Y0 648) (.kv JE0 (.Y0 655) (.kv KE0 (.Y0 662) (.kv LE0 (.Y0 669) (.kv ME0 (.Y0 676) (.kv x20 (.Y0 683) (.kv K30 (.Y0 690) (.kv rG .H0 (.kv gO .H0 (.kv kJ .H0 (.kv k2 .H0 .B0))))))))))))))))))))))))))))) R0 540))
def eH0:Y3:=(.fn (.N1 N9 .B0) nF0)
def fH0:Y3:=(.fn (.N1 i6 .B0) oF0)
def gH0:Y3:=(.fn (.N1 i6 .B0) pF0)
def hH0:Y3:=(.fn (.N1 Q2 (.N1 u5 (.N1 VE (.N1 Q7 (.N1 iO (.N1 WV (.XN uE (.Z0 1) (.XN yr (.Q0 .B0) .B0)))))))) qF0)
def iH0:Y3:=(.O2 (.mk (.kv pG .H0 (.kv qG .H0 (.kv jJ (.Y0 732) (.kv rG .H0 (.kv gO .H0 (.kv kJ .H0 (.kv k2 .H0 .B0))))))) R0 732))
def jH0:Y3:=(.fn (.N1 Q2 (.N1 u5 (.N1 VE (.N1 Q7 (.N1 vH (.N1 qD (.N1 iS (.N1 As (.N1 Cs .B0))))))))) rF0)
def kH0:Y3:=(.O2 (.mk (.kv pG .H0 (.kv qG .H0 (.kv jJ (.Y0 753) (.kv rG .H0 (.kv gO .H0 (.kv kJ .H0 (.kv k2 .H0 .B0))))))) R0 753))
def lH0:Y3:=(.fn (.N1 Q2 (.N1 u5 (.N1 Q7 (.N1 pM (.N1 Ds .B0))))) sF0)
def mH0:Y3:=(.O2 (.mk (.kv pG .H0 (.kv qG .H0 (.kv jJ (.Y0 774) (.kv rG .H0 (.kv gO .H0 (.kv kJ .H0 (.kv k2 .H0 .B0))))))) R0 774))
def nH0:Y3:=(.fn (.N1 Q2 (.N1 nJ (.N1 VE (.N1 Q7 (.N1 y9 (.N1 dS (.N1 KG (.N1 pM (.XN G6 (.j0 (.O4 0)) .B0))))))))) tF0)
def oH0:Y3:=(.O2 (.mk (.kv pG .H0 (.kv qG .H0 (.kv jJ (.Y0 796) (.kv rG .H0 (.kv gO .H0 (.kv kJ .H0 (.kv k2 .H0 .B0))))))) R0 796))
def pH0:Y3:=(.fn (.N1 Q2 (.XN jF .H0 .B0)) uF0)
def qH0:Y3:=(.O2 (.mk (.kv pG .H0 (.kv qG .H0 (.kv jJ (.Y0 818) (.kv RE0 (.Y0 825) (.kv rG .H0 (.kv gO .H0 (.kv kJ .H0 (.kv k2 .H0 .B0)))))))) R0 818))
def rH0:Y3:=(.i7 0 (.N1 BC (.N1 YV .B0)) Ri)
def sH0:Y3:=(.fn (.N1 BC (.N1 Es .B0)) vF0)
def tH0:Y3:=(.fn (.N1 uE (.N1 VC (.N1 O30 (.XN G6 (.j0 (.O4 0)) .B0)))) wF0)
def uH0:Y3:=(.fn .B0 xF0)
def vH0:Y3:=(.fn .B0 yF0)
def wH0:Y3:=(.fn .B0 zF0)
def xH0:Y3:=(.fn (.N1 sH (.N1 E3 (.N1 WC .B0))) AG0)
def yH0:Y3:=(.fn (.N1 W3 (.N1 WC .B0)) BG0)
def zH0:Y3:=(.i7 1 (.N1 BC (.N1 fO .B0)) CG0)
def AI0:Y3:=(.i7 7 (.N1 W3 .B0) DG0)
def BI0:Y3:=(.fn (.N1 W3 .B0) EG0)
def CI0:Y3:=(.fn (.N1 O9 (.N1 WC (.N1 UA .B0))) FG0)
def DI0:Y3:=(.fn (.N1 R4 (.N1 sI (.N1 WE .B0))) GG0)
def EI0:Y3:=(.fn (.N1 BC (.N1 O9 .B0)) HG0)
def FI0:Y3:=(.fn .B0 IG0)
def Si:LT Y3:=(.S3 425 DH0 (.S3 236 cG0 (.S3 146 OG0 (.S3 92 e92 (.S3 64 e64 (.S3 39 e39 (.S3 36 e36 .B0 .B0) (.S3 52 e52 .B0 .B0)) (.S3 85 e85 (.S3 76 e76 .B0 .B0) .B0)) (.S3 118 LG0 (.S3 106 JG0 (.S3 99 e99 .B0 .B0) (.S3 113 KG0 .B0 .B0)) (.S3 132 NG0 (.S3 125 MG0 .B0 .B0) .B0))) (.S3 193 VG0 (.S3 170 SG0 (.S3 158 QG0 (.S3 153 PG0 .B0 .B0) (.S3 165 RG0 .B0 .B0)) (.S3 186 UG0 (.S3 173 TG0 .B0 .B0) .B0)) (.S3 217 ZG0 (.S3 203 XG0 (.S3 198 WG0 .B0 .B0) (.S3 210 YG0 .B0 .B0)) (.S3 229 bG0 (.S3 224 aG0 .B0 .B0) .B0)))) (.S3 326 qG0 (.S3 287 jG0 (.S3 261 gG0 (.S3 247 eG0 (.S3 241 dG0 .B0 .B0) (.S3 254 fG0 .B0 .B0)) (.S3 273 iG0 (.S3 266 hG0 .B0 .B0) .B0)) (.S3 309 nG0 (.S3 299 lG0 (.S3 290 kG0 .B0 .B0) (.S3 304 mG0 .B0 .B0)) (.S3 319 pG0 (.S3 314 oG0 .B0 .B0) .B0))) (.S3 371 xG0 (.S3 352 uG0 (.S3 340 sG0 (.S3 333 rG0 .B0 .B0) (.S3 347 tG0 .B0 .B0)) (.S3 364 wG0 (.S3 359 vG0 .B0 .B0) .B0)) (.S3 399 AH0 (.S3 392 zG0 (.S3 378 yG0 .B0 .B0) .B0) (.S3 418 CH0 (.S3 413 BH0 .B0 .B0) .B0))))) (.S3 709 fH0 (.S3 540 RH0 (.S3 487 KH0 (.S3 456 HH0 (.S3 439 FH0 (.S3 432 EH0 .B0 .B0) (.S3 446 GH0 .B0 .B0)) (.S3 480 JH0 (.S3 475 IH0 .B0 .B0) .B0)) (.S3 511 OH0 (.S3 499 MH0 (.S3 492 LH0 .B0 .B0) (.S3 506 NH0 .B0 .B0)) (.S3 526 QH0 (.S3 514 PH0 .B0 .B0) .B0))) (.S3 636 YH0 (.S3 575 VH0 (.S3 561 TH0 (.S3 547 SH0 .B0 .B0) (.S3 568 UH0 .B0 .B0)) (.S3 622 XH0 (.S3 582 WH0 .B0 .B0) .B0)) (.S3 690 cH0 (.S3 648 aH0 (.S3 643 ZH0 .B0 .B0) (.S3 683 bH0 .B0 .B0)) (.S3 702 eH0 (.S3 693 dH0 .B0 .B0) .B0)))) (.S3 864 tH0 (.S3 777 mH0 (.S3 753 jH0 (.S3 732 hH0 (.S3 716 gH0 .B0 .B0) (.S3 735 iH0 .B0 .B0)) (.S3 774 lH0 (.S3 756 kH0 .B0 .B0) .B0)) (.S3 828 qH0 (.S3 799 oH0 (.S3 796 nH0 .B0 .B0) (.S3 818 pH0 .B0 .B0)) (.S3 853 sH0 (.S3 846 rH0 .B0 .B0) .B0))) (.S3 911 AI0 (.S3 892 xH0 (.S3 878 vH0 (.S3 871 uH0 .B0 .B0) (.S3 885 wH0 .B0 .B0)) (.S3 904 zH0 (.S3 897 yH0 .B0 .B0) .B0)) (.S3 928 DI0 (.S3 923 CI0 (.S3 918 BI0 .B0 .B0) .B0) (.S3 938 FI0 (.S3 933 EI0 .B0 .B0) .B0))))))
def l7(a:C0):Y3:=Si.o9 .no a
def GI0:Pm:=(.N1 R4 (.N1 sI (.N1 tG .B0)))
def HI0:C:=(.w0 (.F0 sI) (kI 2))
def TB:mI:=⟨l7,λ _=>GI0,λ _=>HI0,i7 456 64⟩
def XQ:C0:=456
end
section
def P9:z5:=(en (pU 90)).y7
def bV:C1:=(eC (eN "_law_call_right" 881 19 34) [(eN "source" 881 35 41),(eC (eN "_law_one" 881 43 51) [(eN "source" 881 52 58),(eC (eN "_law_rows" 881 60 69) [] 881 60 71)] 881 43 72)] 881 19 73)
def cV:PV:=.kv (vc "source") (.J0 0) .B0
def Ls:C:=cE gF cl 40 P9 bV
@[irreducible] def LA:H7 PV:=(nD HB TB 300).B6 Ls cV nG
def JB(p:PV)(σ:K1):I1:=jh p&&ZS σ nG 1
def dn{α:Type}(o:H7 α):C0:=match o with
 |.YG n _=>n
 |_=>0
def dk{α:Type}(o:H7 α)(d:C0):H7 α:=match o with
 |.YG _ k=>k d
 |_=> .eJ 0
theorem II0{f:C0->I1}:∀{n:C0},(∀i,i<n->f i=I0)->AG n f=I0:=by
 intro n;induction n with
 |K9=>exact λ _=>O
 |J9 n ih=>
  intro h;show(bif f n then AG n f else R0)=I0;rw[h n (TD n)];exact ih λ i hi=>h i (xT hi)
theorem Jc{c:PV->K1->I1}{o:H7 PV}{n:C0}(h:dn o=n+1)(h0:S8 c (dk o 0)=I0)(hr:AG n (λ d=>S8 c (dk o (d+1)))=I0):S8 c o=I0:=by
 cases o with
 |YG m k=>
  have h:m=n+1:=h;subst h;show AG (n+1) (λ d=>S8 c (k d))=I0;refine II0 λ i hi=>?_;cases i with
  |K9=>exact h0
  |J9 i=>exact cR hr i (uS0 hi)
 |_=>contradiction
theorem r11:dn LA=11:=by kernel_rfl
end
section
@[irreducible] def Ms:P0 P5:=(H.fB (pU 90)).x7
def fT:S:=(.V1 (.F0 WE) (.Q0 (.A0 (.Q0 (.A0 (.v0 (.Z0 Ji)) (.A0 (.Q0 (.A0 (.v0 (.Z0 gJ)) .B0)) (.A0 (.v0 (.j0 (.O4 7))) (.A0 (.v0 (.j0 (.O4 0))) .B0))))) (.A0 (.Q0 (.A0 (.v0 (.Z0 Ji)) (.A0 (.v0 (.Q0 (.A0 (.Z0 lB) (.A0 (.Z0 tC) .B0)))) (.A0 (.v0 (.j0 (.O4 8))) (.A0 (.v0 (.j0 (.O4 0))) .B0))))) .B0))) (.V1 (.F0 sI) (.Q0 (.A0 (.v0 (.Z0 UY)) (.A0 (.v0 (.j0 (.O4 5))) (.A0 (.Q0 (.A0 (.v0 (.Z0 u5)) (.A0 (.v0 (.j0 (.O4 5))) (.A0 (.Q0 (.A0 (.Q0 (.A0 (.v0 (.Z0 xE)) (.A0 (.Q0 .B0) (.A0 (.Q0 .B0) .B0)))) (.A0 (.Q0 (.A0 (.v0 (.Z0 sS)) (.A0 (.Q0 .B0) (.A0 (.Q0 .B0) .B0)))) .B0))) .B0)))) (.A0 (.mk .Q0 (.T4 (.J7 (.Q0 (.A0 (.v0 (.Z0 E3)) (.A0 (.v0 (.j0 (.O4 0))) (.A0 (.F0 TY) .B0)))) (.F0 TY) .B0 (.T4 (.F0 WE))))) .B0))))) (.K3 (.S1 .ne (.w0 (.K2 (.v0 (.Y0 928)) (.A0 (.K2 (.v0 (.Y0 878)) .B0) (.A0 (.F0 sI) (.A0 (.F0 WE) .B0)))) (.v0 (.j0 (.O4 0)))) (.Q0 (.A0 (.v0 (.Z0 lS)) (.A0 (.v0 (.Z0 Ni)) (.A0 (.Q0 (.A0 (.Q0 (.A0 (.v0 (.Z0 gJ)) .B0)) (.A0 (.v0 (.Q0 (.A0 (.Z0 lB) (.A0 (.Z0 tC) .B0)))) .B0))) .B0))))) (.U1 (.v0 (.O3 R0))) .B0 (.U1 (.K2 (.v0 (.Y0 938)) .B0)))))
theorem cT_:cS gF cl 40 P9 Ms=fT:=by kernel_rfl
def Qs(o:H7 Fl):I1:=@K00 Fl (λ _=>I1) (λ f _=>match f with|.U1 v _=>jh v|_=>R0) (λ _ _=>R0) (λ n _ ih=>AG n ih) (λ _=>R0) o
theorem JI0{o:H7 Fl}:Qs o=I0->aH (λ f _=>∃e,f=.U1 (.O3 I0) e) λ _ _=>J6:=by
 induction o with
 |B9 a s=>
  intro h;cases a with
  |U1 v e=>exact⟨e,H6 (Fl.U1 · e) (l20 h)⟩
  |_=>contradiction
 |K8 i s=>intro h;cases h
 |YG n k ih=>exact λ h d hd=>ih d (cR h d hd)
 |eJ w=>intro h;cases h
theorem KI0:Qs ((nD HB TB 300).AE fT .B0 aS)=I0:=by kernel_rfl
end
section
theorem LI0:S8 JB (dk (dk (dk LA 0) 0) 0)=I0:=by kernel_rfl
theorem MI0:AG 1 (λ d=>S8 JB (dk (dk (dk LA 0) 0) (d+1)))=I0:=by kernel_rfl
theorem NI0:AG 5 (λ d=>S8 JB (dk (dk LA 0) (d+1)))=I0:=by kernel_rfl
theorem OI0:dn (dk LA 0)=5+1:=by kernel_rfl
theorem PI0:dn (dk (dk LA 0) 0)=1+1:=by kernel_rfl
theorem rx0:S8 JB (dk LA 0)=I0:=Jc OI0 (Jc PI0 LI0 MI0) NI0
end
section
theorem rx1:S8 JB (dk LA 1)=I0:=by kernel_rfl
end
section
theorem rx2:S8 JB (dk LA 2)=I0:=by kernel_rfl
end
section
theorem rx3:S8 JB (dk LA 3)=I0:=by kernel_rfl
end
section
theorem rx4:S8 JB (dk LA 4)=I0:=by kernel_rfl
end
section
theorem QI0:S8 JB (dk (dk LA 5) 0)=I0:=by kernel_rfl
theorem RI0:AG 5 (λ d=>S8 JB (dk (dk LA 5) (d+1)))=I0:=by kernel_rfl
theorem SI0:dn (dk LA 5)=5+1:=by kernel_rfl
theorem rx5:S8 JB (dk LA 5)=I0:=Jc SI0 QI0 RI0
end
section
theorem rx6:S8 JB (dk LA 6)=I0:=by kernel_rfl
end
section
theorem TI0:S8 JB (dk (dk (dk LA 7) 0) 0)=I0:=by kernel_rfl
theorem UI0:AG 1 (λ d=>S8 JB (dk (dk (dk LA 7) 0) (d+1)))=I0:=by kernel_rfl
theorem VI0:AG 5 (λ d=>S8 JB (dk (dk LA 7) (d+1)))=I0:=by kernel_rfl
theorem WI0:dn (dk LA 7)=5+1:=by kernel_rfl
theorem XI0:dn (dk (dk LA 7) 0)=1+1:=by kernel_rfl
theorem rx7:S8 JB (dk LA 7)=I0:=Jc WI0 (Jc XI0 TI0 UI0) VI0
end
section
theorem rx8:S8 JB (dk LA 8)=I0:=by kernel_rfl
end
section
theorem rx9:S8 JB (dk LA 9)=I0:=by kernel_rfl
end
section
theorem YI0:S8 JB (dk LA 10)=I0:=by kernel_rfl
end
section
section
def ZI0:C0:=1540841246959064896438706
def aI0:C0:=1383040475425210669
set_option genInjectivity true in
inductive Ty where
 |u8|yE|X
 |Y8(t:Ty)
 |Z8(t:Ty)
@[reducible] def Ty.MJ(x:Ty):C0:=@SG (λ _=>C0) x 0 1 2 (λ _=>3) (λ _=>4)
namespace Ty
def iI:Ty->C0
 |Y8 t=>DS+1
 |Z8 t=>DS+1
 |_=>0
def hd:Ty->C0
 |u8=>0|yE=>1|X=>2|Y8 _=>3|Z8 _=>4
def p:Ty->PV
 |u8=> .Q0 (QS 0)|yE=> .Q0 (QS 1)|X=> .Q0 (QS 2)
 |Y8 t=> .Q0 (J10 XF)
 |Z8 t=> .Q0 (Qp XF)
def hs:C0->C0
 |0=>zX|1=>AV|2=>AY|3=>BV|_=>CV
def Bg(x:C0)(l:PV):PV:=.Q0 (.A0 (.Z0 ZI0) (.A0 (.j0 0) (.A0 (.Q0 (.A0 (.Q0 (.A0 (.Z0 x) (.A0 (.Q0 .B0) (.A0 (.Q0 l) .B0)))) .B0)) .B0)))
def w:Ty->PV
 |u8=>Bg yg .B0|yE=>Bg AV .B0|X=>Bg nX .B0
 |Y8 t=>Bg aI0 (.A0 xU .B0)
 |Z8 t=>Bg nS (.A0 xU .B0)
end Ty
structure Gh where
 σ:K1
 ρ:C0->H1
 τ:C0->Ty
 av:P0 H1:=[]
noncomputable abbrev F8(vs:P0 K0)(n:C0):D4:={O2:=.U0 "tuple",H2:=H0,M3:=.W5 OB n,LC:=#[]}
noncomputable abbrev qB(vs:P0 K0)(n:C0):D4:={O2:=.U0 "list",H2:=H0,M3:=.W5 OB n,LC:=#[]}
inductive X30(n:C0)(v:K0):Prop
 |mk(h0:n≠0)(s:u0)(t:P6)(e:v=.Z0 s t)(e2:vc s=n)
inductive bI0(n:C0)(v:K0):Prop
 |mk(s:u0)(t:P6)(e:v=.Z0 s t)(l:s.M7<=n)
inductive cI0(P:K0->Prop)(Q:P0 K0->Prop)(l:P0 K0):Prop
 |mk(v:K0)(q:P0 K0)(e:l=v::q)(p:P v)(r:Q q)
inductive dI0(av:P0 H1)(h:O1)(Q:P0 K0->Prop)(v:K0):Prop
 |mk(a:H1)(vs:P0 K0)(k:C0)(e:v=.J0 a)(z:a∉av)(g:C3 a=E0 (F8 vs k))(r:Q vs)
def vP(T W K:C0->O1->K0->Prop)(n:C0)(ρ:C0->H1)(av:P0 H1)(h:O1)(p:PV):(K0->Prop)×(P0 K0->Prop):=
 @X_ (λ _=>(K0->Prop)×(P0 K0->Prop))
  (λ v=>v=.H0,λ _=>J6)
  (λ b=>(λ v=>v=.O3 b,λ _=>J6))
  (λ i=>(λ v=>∃t,v=.j0 i t,λ _=>J6))
  (λ n=>(X30 n,λ _=>J6))
  (λ n=>(bI0 n,λ _=>J6))
  (λ _=>J6,λ l=>l=[])
  (λ _ _ a r=>(λ _=>J6,cI0 a.1 r.2))
  (λ _ _ _ _ _=>(λ _=>J6,λ _=>J6))
  (λ _ l=>(dI0 av h l.2,λ _=>J6))
  (λ i=>(λ v=>i<n/\v=.J0 (ρ i),λ _=>J6))
  (λ a=>(λ v=>v=.J0 a,λ _=>J6))
  (λ i=>(λ v=>T i h v,λ _=>J6))
  (λ i=>(λ v=>W i h v,λ _=>J6))
  (λ i=>(λ v=>K i h v,λ _=>J6)) p
def WY:C0->O1->K0->Prop:=λ _ _ _=>J6
def rJ(av:P0 H1)(p:PV)(h:O1)(v:K0):Prop:=(vP WY WY WY 0 (λ _=>0) av h p).1 v
def Y30(av:P0 H1)(p:PV)(h:O1)(v:P0 K0):Prop:=(vP WY WY WY 0 (λ _=>0) av h p).2 v
def Gh.T(G:Gh)(i:C0)(h:O1)(v:K0):Prop:=i<UB/\rJ F5 (J5 i).p h v
def Gh.W(G:Gh)(i:C0)(h:O1)(v:K0):Prop:=i<UB/\rJ F5 (J5 i).w h v
def Gh.K(G:Gh)(i:C0)(h:O1)(v:K0):Prop:=i<UB/\rJ F5 (.Z0 (ID (J5 i).hd)) h v
def H3(G:Gh)(h:O1)(p:PV)(v:K0):Prop:=(vP G.T G.W G.K J3 Y2 F5 h p).1 v
def A4(G:Gh)(h:O1)(p:PV)(l:P0 K0):Prop:=(vP G.T G.W G.K J3 Y2 F5 h p).2 l
section
variable{G:Gh}{h:Heap}{v:Value}{l:List Value}
theorem eI0:H3 G h .H0 v↔v=.H0:=tF
theorem fI0{b}:H3 G h (.O3 b) v↔v=.O3 b:=tF
theorem gI0{i}:H3 G h (.j0 i) v↔∃t,v=.j0 i t:=tF
end
def CC(av:P0 H1)(h h':O1):Prop:=∀b vs k,b∉av->C3 b=E0 (F8 vs k)->D3 b=E0 (F8 vs k)
theorem XY{T W K T' W' K':C0->O1->K0->Prop}{n n':C0}{ρ ρ':C0->H1}{av YY:P0 H1}{h h':O1}(hn:n<=n')(wH:∀i,i<n->ρ' i=ρ i)
  (hk:∀b vs k,b∉av->C3 b=E0 (F8 vs k)->b∉YY/\D3 b=E0 (F8 vs k))
  (hT:∀i v,T i h v->T' i h' v)(hW:∀i v,W i h v->W' i h' v)(hK:∀i v,K i h v->K' i h' v)(p:PV):
  (∀v,(vP T W K n ρ av h p).1 v->(vP T' W' K' n' ρ' YY h' p).1 v)/\(∀l,(vP T W K n ρ av h p).2 l->(vP T' W' K' n' ρ' YY h' p).2 l):=by
 induction p with
 |H0|O3|j0|Z0|EG|Y0=>exact⟨λ _ x=>x,λ _ x=>x⟩
 |B0=>exact⟨λ _ x=>x,λ _ x=>x⟩
 |A0 a r MG RA=>exact⟨λ _ x=>x,λ l Z2=>by obtain⟨v,q,e,x,y⟩:=Z2;exact⟨v,q,e,MG.1 v x,RA.2 q y⟩⟩
 |kv=>exact⟨λ _ x=>x,λ _ x=>x⟩
 |Q0 l ih=>exact⟨λ v Z2=>by obtain⟨a,vs,k,e,z,x,y⟩:=Z2;exact⟨a,vs,k,e,(hk _ _ _ z x).1,(hk _ _ _ z x).2,ih.2 vs y⟩,λ _ x=>x⟩
 |J0 i=>exact⟨λ v Z2=>by obtain⟨x,e⟩:=Z2;exact⟨W8 x hn,(wH i x).Z3▸e⟩,λ _ x=>x⟩
 |ty i=>exact⟨λ v x=>hT i v x,λ _ x=>x⟩
 |wr i=>exact⟨λ v x=>hW i v x,λ _ x=>x⟩
 |pC i=>exact⟨λ v x=>hK i v x,λ _ x=>x⟩
theorem AL{av YY:P0 H1}{h h':O1}(hk:∀b vs k,b∉av->C3 b=E0 (F8 vs k)->b∉YY/\D3 b=E0 (F8 vs k)){p:PV}{v:K0}(x:rJ av p h v):rJ YY p h' v:=
 (XY (B8 _) (λ _ _=>O) hk (λ _ _ x=>x) (λ _ _ x=>x) (λ _ _ x=>x) p).1 v x
structure Hz(G G':Gh):Prop where
 n:J3<=wF.n
 ρ:∀i,i<J3->Hf i=Y2 i
 av:G'.av=F5
 m:UB<=wF.m
 τ:∀i,i<UB->G'.τ i=J5 i
theorem Hz.M5(G:Gh):FO G:=⟨B8 _,λ _ _=>O,O,B8 _,λ _ _=>O⟩
theorem Hz.U2{Cg YQ Kc:Gh}(x:Cg.Le YQ)(y:YQ.Le Kc):Cg.Le Kc:=⟨X6 x.1 y.1,λ i hi=>(y.2 i (W8 hi x.1)).U2 (x.2 i hi),y.3.U2 x.3,X6 x.4 y.4,λ i hi=>(y.5 i (W8 hi x.4)).U2 (x.5 i hi)⟩
section
variable{G G':Gh}{h h':Heap}{p:PV}{v:Value}{l:List Value}
theorem tS(le:FO G')(hk:CC F5 h h'):∀b vs k,b∉F5->C3 b=E0 (F8 vs k)->b∉G'.av/\D3 b=E0 (F8 vs k):=
 λ b vs k hb e=>⟨QU▸hb,hk b vs k hb e⟩
theorem H3.E5(x:H3 G h p v)(le:FO G')(hk:CC F5 h h'):H3 G' h' p v:=
 (XY le.1 le.2 (tS le hk) (λ i v x=>⟨W8 x.1 Dg,by rw[TX i x.1];exact AL (tS le hk) x.2⟩) (λ i v x=>⟨W8 x.1 Dg,by rw[TX i x.1];exact AL (tS le hk) x.2⟩) (λ i v x=>⟨W8 x.1 Dg,by rw[TX i x.1];exact AL (tS le hk) x.2⟩) p).1 v x
theorem MB0(x:A4 G h p l)(le:FO G')(hk:CC F5 h h'):A4 G' h' p l:=
 (XY le.1 le.2 (tS le hk) (λ i v x=>⟨W8 x.1 Dg,by rw[TX i x.1];exact AL (tS le hk) x.2⟩) (λ i v x=>⟨W8 x.1 Dg,by rw[TX i x.1];exact AL (tS le hk) x.2⟩) (λ i v x=>⟨W8 x.1 Dg,by rw[TX i x.1];exact AL (tS le hk) x.2⟩) p).2 l x
end
inductive KvR(k:C0)(P:K0->Prop)(Q:P0 (u0×K0)->Prop)(l:P0 (u0×K0)):Prop
 |mk(x:u0)(u:K0)(q:P0 (u0×K0))(e:l=(x,u)::q)(h0:k≠0)(hx:vc x=k)(p:P u)(r:Q q)
def U8(G:Gh)(h:O1)(p:PV):P0 (u0×K0)->Prop:=
 @X_ (λ _=>P0 (u0×K0)->Prop)
  (λ _=>J6) (λ _ _=>J6) (λ _ _=>J6) (λ _ _=>J6) (λ _ _=>J6)
  (λ l=>l=[])
  (λ _ _ _ _ _=>J6)
  (λ k v _ _ ih=>KvR k (H3 G h v) ih)
  (λ _ _ _=>J6) (λ _ _=>J6) (λ _ _=>J6) (λ _ _=>J6) (λ _ _=>J6) (λ _ _=>J6) p
theorem L00{G G':Gh}{h h':O1}(le:FO G')(hk:CC F5 h h'){p:PV}:∀{l:P0 (u0×K0)},U8 G h p l->U8 G' h' p l:=by
 induction p with
 |kv k v r ihv RA=>exact λ Z2=>by obtain⟨x,u,q,e,h0,hx,hv,hr⟩:=Z2;exact⟨x,u,q,e,h0,hx,hv.E5 le hk,RA hr⟩
 |B0=>exact λ x=>x
 |_=>exact λ x=>jD
def uS(hf:O1)(cx:I1)(h:O1)(vs:M4 K0):Prop:=
 (4<vs.L9/\(cx=R0->vs[2]?=E0 .H0))/\(vs[1]?=E0 .H0\/∃T oT ts,vs[1]?=E0 (.J0 T)/\C3 T=E0 oT/\oT.O2=.U0 "traceback"/\oT.M3=.T5 ts/\3<Nn/\GP T=H0)
def YR(o:D4):Prop:=H4=.U0 "code"/\∃vs,I9=.T5 vs
def sJ(h:O1)(cd:K0)(q:u0):Prop:=∃c o vs t,cd=.J0 c/\C3 c=E0 o/\H4=.U0 "code"/\I9=.T5 vs/\vs[1]?=E0 (.Z0 q t)
theorem sJ.NR{h:O1}{cd:K0}{q:u0}(x:sJ h cd q):h.Ry cd q:=by obtain⟨c,o,vs,t,e,g,_,d,r⟩:=x;exact⟨c,o,vs,t,e,g,d,r⟩
theorem sJ.at{h h':O1}{cd:K0}{q:u0}(x:sJ h cd q)(k:∀b o,C3 b=E0 o->YR o->D3 b=E0 o):sJ h' cd q:=by obtain⟨c,o,vs,t,e,g,cc,d,r⟩:=x;exact⟨c,o,vs,t,e,k c o g ⟨cc,vs,d⟩,cc,d,r⟩
structure Bs where
 L3:tL
 w:N4
 hf:O1
 Z:P0 H1
 zin:∀b∈Z,∃o,GP b=E0 o
 Z30:(GP vZ).AM=I0
 qA:C0->O1->H1->Prop
 NG:O1->Prop
 Eg:∀h:O1,NG h->(∀b o,GP b=E0 o->b∉Z->H4≠.U0 "frame"->H4≠.U0 "traceback"->C3 b=E0 o)->hf.hO<=o8
 Ss:∀h,NG h->∀b∈Z,∀o,C3 b=E0 o->H4≠.U0 "frame"/\H4≠.U0 "traceback"
 iI0:∀h h',(∀b o,C3 b=E0 o->b∈Z\/YR o\/(∃x,GP b=E0 x)->D3 b=E0 o)->NG h->NG h'
 zfr:∀{h:O1},NG h->∀b o,GP b=E0 o->H4=.U0 "frame"\/H4=.U0 "traceback"->C3 b=E0 o
 jI0:∀k h h' a,(∀b o,C3 b=E0 o->b=a\/YR o->D3 b=E0 o)->qA k h a->qA k h' a
 Ti:K0->Prop
 zfn:∀{v:K0}{h:O1},Ti v->NG h->∃c P ps,v=.J0 c/\io c P ps/\h.Sy c P ps/\P∈Z/\∀D2 c',zZ D2 k00=E0 c'->∃q,sJ h c' q
 a30:∀{v:K0}{h h':O1}{c P:H1}{ps:M4 K0}{D2:T3}{c':H1}{q:u0},Ti v->v=.J0 c->NG h->io c P ps->bd P h h'->o8<=c'->h'.YR c P (ps++#[j5 i_,j5 D2.YJ,.J0 c'])->
  h'.Sy c P (ps++#[j5 i_,j5 D2.YJ,.J0 c'])->sJ h' (.J0 c') q->NG h'
 b30:∀k h a,qA k h a->∃o,C3 a=E0 o/\H4=.U0 "function"
variable(B:Bs)
inductive c30(G:Gh)(h:O1)(a:H1)(l:PV):Prop
 |mk(vs:P0 K0)(k:C0)(g:C3 a=E0 (qB vs k))(r:A4 G h l vs)
inductive d30(G:Gh)(h:O1)(a:H1)(l:PV):Prop
 |mk(V2:P0 (u0×K0))(g:h.WR (GD gE oE) a V2)(r:U8 G h l V2)
inductive kI0(G:Gh)(h:O1)(a:H1)(l:PV):Prop
 |mk(V2:P0 (u0×K0))(o:D4)(g:C3 a=E0 o)(c:H4=.U0 "dict")(n:bU a (uF V2))(nd:(lN (·.1)).JD)(r:U8 G h l V2)
inductive lI0(G:Gh)(h:O1)(a:H1)(c d:C0):Prop
 |mk(g:C3 a=E0 (F_ c (Y2 d)))(l:d<J3)(f:∃l,P3 d=.W6 l)
inductive mI0(G:Gh)(h:O1)(a:H1)(cx:I1)(c d:C0):Prop
 |mk(vs:M4 K0)(g:C3 a=E0 ⟨.J0 c,E0 (Y2 d),.T5 vs,#[]⟩)(l:d<J3)(f:∃l,P3 d=.W6 l)(t:uS VH cx h vs)
inductive SrcR(h:O1)(a:H1):Prop
 |mk(x:B2)(t:P6)(y:B2)(u:P6)(k:C0)(g:C3 a=E0 (qB [.j0 x t,.j0 y u] k))
def zE(G:Gh)(h:O1)(a:H1):AO->Prop
 |.K4=>rP
 |.M1 l=>c30 G h a l
 |.H2 l=>d30 B G h a l
 |.W6 l=>kI0 G h a l
 |.w7 c d=>lI0 G h a c d
 |.K8 cx c d=>mI0 B G h a cx c d
 |.qA k=>cU k h a
 |.bm f q_=>∃u,C3 a=E0 (qV0 (.J0 f) u)/\H3 G h q_ u
 |.S4=>SrcR h a
 |.ti _=>J6
def w9(G:Gh)(b:H1):Prop:=∃i,i<J3/\P3 i≠.K4/\Y2 i=b
def ZQ(τ:C0->Ty)(m i:C0):TI->Prop
 |.RC k d=>k<32/\qC k (τ i).hd=I0/\(τ i).iI<=d
 |.al j=>j<m/\τ i=τ j
 |.mA k=>k<3/\(τ i).hd=k
 |.Y8 j=>j<m/\τ i=.Y8 (τ j)
 |.Z8 j=>j<m/\τ i=.Z8 (τ j)
structure lA(τ:C0->Ty)(σ:K1):Prop where
 iI:∀i,i<E6->(τ i).iI<=2
 info:∀i,i<E6->ZQ τ E6 i (X8 i)
 ne:∀p∈pP,p.1<E6/\p.2<E6/\τ p.1≠τ p.2
structure Zg(G:Gh)(h:O1):Prop where
 KT:∀i j,i<J3->j<J3->P3 i≠.K4->P3 j≠.K4->Y2 i=Y2 j->i=j
 QF:∀i,i<J3->zE B G h (Y2 i) (P3 i)
 RO:∀i,J3<=i->P3 i=.K4
 mA:∀i,i<J3->P3 i≠.K4->TG (Y2 i)=H0
 av:∀a∈F5,TG a=H0/\∃o,C3 a=E0 o
def BL(o o':D4):Prop:=o'=o\/(H4=.U0 "frame"/\∃sl,o'={o with LC:=sl})\/(H4=.U0 "traceback"/\∃ts iH,I9=.T5 ts/\o'={o with M3:=.T5 iH}/\iH.L9=Nn)
theorem BL.M5(o:D4):BL o o:=.S2 O
theorem BL.U2{a b c:D4}(x:BL a b)(y:BL b c):BL a c:=by
 rcases x with O|⟨hc,sl,O⟩|⟨hc,ts,iH,hd,O,hz⟩
 ·exact y
 ·rcases y with O|⟨_,sl',O⟩|⟨dB,_⟩
  ·exact .L2 (.S2 ⟨hc,sl,O⟩)
  ·exact .L2 (.S2 ⟨hc,sl',O⟩)
  ·have dB:l00=_:=dB;rw[hc]at dB;exact U3 dB (by trivial)
 ·rcases y with O|⟨dB,_⟩|⟨_,us,us',eA,O,SO⟩
  ·exact .L2 (.L2 ⟨hc,ts,iH,hd,O,hz⟩)
  ·have dB:l00=_:=dB;rw[hc]at dB;exact U3 dB (by trivial)
  ·have eA:Data.T5 iH=.T5 us:=eA;cases eA;exact .L2 (.L2 ⟨hc,ts,us',hd,O,SO.U2 hz⟩)
theorem BL.eq{a b:D4}(x:BL a b)(h1:l00≠.U0 "frame")(h2:l00≠.U0 "traceback"):b=a:=by
 rcases x with e|⟨h,_⟩|⟨h,_⟩
 ·exact e
 ·exact U3 h h1
 ·exact U3 h h2
theorem BL.nI0{a b:D4}(x:BL a b)(h:∀vs,a.M3≠.T5 vs):b.M3=a.M3:=by
 rcases x with O|⟨_,_,O⟩|⟨_,ts,_,hd,_⟩
 ·rfl
 ·rfl
 ·exact U3 hd (h ts)
structure XE(h h':O1):Prop where
 tb:∀b o ts,C3 b=E0 o->H4=.U0 "traceback"->I9=.T5 ts->∃o' iH,D3 b=E0 o'/\YK=.U0 "traceback"/\f_=.T5 iH/\iH.L9=Nn
 fr:∀b o,C3 b=E0 o->H4=.U0 "frame"->(∀vs,I9≠.T5 vs)->∃o',D3 b=E0 o'/\YK=.U0 "frame"/\∀vs,f_≠.T5 vs
 bA:∀b o,C3 b=E0 o->YR o->D3 b=E0 o
theorem XE.M5(h:O1):XE h h:=⟨λ _ o ts e c d=>⟨o,ts,e,c,d,O⟩,λ _ o e c d=>⟨o,e,c,d⟩,λ _ _ e _=>e⟩
theorem XE.U2{n5 u7 e8:O1}(x:XE n5 u7)(y:XE u7 e8):XE n5 e8:=
 ⟨λ b o ts e c d=>by obtain⟨o',iH,e',c',d',z'⟩:=x.tb b o ts e c d;exact by obtain⟨Lc,oI0,ag,c'',d'',z''⟩:=y.tb b o' iH e' c' d';exact⟨Lc,oI0,ag,c'',d'',z''.U2 z'⟩,
  λ b o e c d=>by obtain⟨o',e',c',d'⟩:=x.fr b o e c d;exact y.fr b o' e' c' d',λ b o e c=>y.bA b o (x00 b o e c) c⟩
theorem XE.pW0{hf:O1}{cx:I1}{h h':O1}(x:XE h h'){vs:M4 K0}(t:uS hf cx h vs):uS hf cx h' vs:=by
 obtain⟨h1,h2|⟨T,oT,ts,e,g,c,d,z,bT⟩⟩:=t
 ·exact⟨h1,.S2 h2⟩
 ·obtain⟨o',iH,e',c',d',z'⟩:=x.tb T oT ts g c d;exact⟨h1,.L2 ⟨T,o',iH,e,e',c',d',z'▸z,bT⟩⟩
structure A3(F:H1->Prop)(G:Gh)(s:D1)(G':Gh)(s':D1):Prop where
 st:∃h tk,s'={s with B3:=h,B4:=tk}
 le:FO G'
 v9:∀b,w9 G' b->w9 G b\/F3 b=H0
 GE:∀b o,F3 b=E0 o->∃o',VL b=E0 o'
 MC:∀b o,F3 b=E0 o->¬w9 G b->¬F b->b∉GG->∃o',VL b=E0 o'/\BL o o'
 Q0:CC F5 W0 U6
 k3:XE W0 U6
def N2:H1->Prop:=λ _=>J6
variable{B τ}
theorem A3.M5(F:H1->Prop)(G:Gh)(s:D1):A3 B F G s G s:=⟨⟨W0,X4,O⟩,.M5 G,λ _ x=> .S2 x,λ _ o e=>⟨o,e⟩,λ _ o e _ _ _=>⟨o,e,.M5 o⟩,λ _ _ _ _ e=>e,.M5 _⟩
theorem A3.U2{F:H1->Prop}{Cg YQ Kc:Gh}{N6 s9 MD:D1}(x:A3 B F Cg N6 YQ s9)(y:A3 B F YQ s9 Kc MD):A3 B F Cg N6 Kc MD:=by
 obtain⟨h2,t2,O⟩:=x.st;obtain⟨h3,t3,O⟩:=y.st;refine⟨⟨h3,t3,O⟩,x.le.U2 y.le,λ b hb=>?_,λ b o e=>?_,λ b o e n1 n2 n3=>?_,λ b vs k hb e=>y.Q0 b vs k (x.QU▸hb) (x.Q0 b vs k hb e),x.k3.U2 y.k3⟩
 ·rcases y.v9 b hb with h|h
  ·exact Ca b h
  ·cases e:N6.FV b with
   |H0=>exact .L2 O
   |E0 o=>obtain⟨o',e'⟩:=x.GE b o e;rw[h]at e';contradiction
 ·obtain⟨o',e'⟩:=x.GE b o e;exact y.GE b o' e'
 ·obtain⟨o',e',s1⟩:=x.MC b o e n1 n2 n3;obtain⟨Lc,ag,s2⟩:=y.MC b o' e' (λ q=>by
   rcases Ca b q with h|h
   ·exact n1 h
   ·rw[e]at h;contradiction) n2 n3
  exact⟨Lc,ag,s1.U2 s2⟩
theorem A3.E5{F F':H1->Prop}{G G':Gh}{s s':D1}(x:A3 B F G s G' s')(h:∀b,F b->F' b):A3 B F' G s G' s':=
 ⟨x.st,x.le,Ca,x.GE,λ b o e n1 n2 n3=>x.MC b o e n1 (λ q=>n2 (h b q)) n3,x.Q0,x.k3⟩
theorem A3.TF{F F':H1->Prop}{G G':Gh}{s s':D1}(x:A3 B F G s G' s')(h:∀b,F b->F' b\/F3 b=H0):A3 B F' G s G' s':=
 ⟨x.st,x.le,Ca,x.GE,λ b o e n1 n2 n3=>x.MC b o e n1 (λ q=>by
  rcases h b q with h|h
  ·exact n2 h
  ·rw[e]at h;contradiction) n3,x.Q0,x.k3⟩
theorem H3.K6{F:H1->Prop}{G G':Gh}{s s':D1}{p:PV}{v:K0}(x:H3 G W0 p v)(y:A3 B F G s G' s'):H3 G' U6 p v:=y00 y.le y.Q0
theorem A4.K6{F:H1->Prop}{G G':Gh}{s s':D1}{p:PV}{v:P0 K0}(x:A4 G W0 p v)(y:A3 B F G s G' s'):A4 G' U6 p v:=y00 y.le y.Q0
def vS(hf h:O1)(l:P0 o6):Prop:=∀e∈l,e.ST≠.vW/\∃L o,e.HD=E0 L/\C3 L=E0 o/\H4=.U0 "frame"/\(∀vs,I9≠.T5 vs)/\GP L=H0
theorem vS.MC{b h h':O1}{l:P0 o6}(x:vS b h l)(k:XE h h'):vS b h' l:=λ e he=>
 EO (x e he) λ h1 z=>e2n4 z λ L o hf z=>e0n4 z λ ho hc hd bL=>nU (k.fr L o ho hc hd) λ o' IS dB eA=>
 ⟨h1,L,o',hf,IS,dB,eA,bL⟩
def pI0:O1:={}
theorem vS.fun{b h:O1}:∀{l:P0 o6},vS b h l->h.FunFrames pI0 l:=by
 intro zq;induction zq with
 |B0=>
  intro _;exact FE
 |A0 e r ih=>
  intro x;obtain⟨h1,L,o,hf,ho,_,hd,_⟩:=x e (.J8 _);exact⟨h1,⟨L,o,hf,O,ho,hd⟩,ih λ e' he=>x e' (.x7 _ he)⟩
def YD(B:Bs)(h:O1):Prop:=∀b o,TG b=E0 o->b∉GG->H4≠.U0 "frame"->H4≠.U0 "traceback"->C3 b=E0 o
structure J1(B:Bs)(A:C6)(G:Gh)(s:D1):Prop where
 ty:lA J5 R1
 inv:Zg B G W0
 mA:YD B W0
 NG:B.NG W0
 fr:∃l,dN=E0 l/\vS VH W0 l
end
end
section
section
theorem wif_pos{M:YB}{A:C6}{α:Type}{c:Prop}[r90 c]{a b:Y7 α}{Q:α->D1->Prop}{E:K0->D1->Prop}{s:D1}(h:c)(k:V0 M A a Q E s):V0 M A (if c then a else b) Q E s:=(y3 h).Z3▸k
theorem SI{M:YB}{A:C6}{α:Type}{c:Prop}[r90 c]{a b:Y7 α}{Q:α->D1->Prop}{E:K0->D1->Prop}{s:D1}(h:¬c)(k:V0 M A b Q E s):V0 M A (if c then a else b) Q E s:=(w3 h).Z3▸k
theorem Mc{a b:V6}(h:a≠b):aL a≠aL b:=λ q=>h (aL.KT q)
theorem Ui{a:H1}{b:V6}:x6 a≠aL b:=by nofun
theorem qI0{h:O1}{a b:H1}{o o':D4}(e:C3 a=E0 o)(e':C3 b=E0 o')(c:H4≠YK):a≠b:=λ q=>c (H6 D4.O2 (I3 (xc (q▸e'))))
theorem rM{h:O1}{a b:H1}{o o':D4}{x y:V6}(e:C3 a=E0 o)(e':C3 b=E0 o')(c:H4=.U0 x)(c':YK=.U0 y)(n:x≠y):a≠b:=qI0 e e' (c▸c'▸Mc n)
theorem Vi{P:H1->Prop}{c z t:H1}(h:c=z\/c=t)(a:P z)(b:P t):P c:=u4 (λ q=>q▸a) λ q=>q▸b
theorem Wi{P:H1->Prop}{c z t i j:H1}(h:c=z\/c=t\/c=i\/c=j)(a:P z)(b:P t)(x:P i)(y:P j):P c:=u4 (λ q=>q▸a) λ h=>u4 (λ q=>q▸b) λ h=>Vi h x y
theorem xS(i:C0):i=0\/(∃a,i=2*a+1)\/∃a,i=2*a+2:=by
 induction i using TL with
 |K9=>exact .S2 O
 |J9 i=>
  rcases C0.mod_two_eq_zero_or_one i with h|h
  ·exact .L2 (.S2 ⟨i/2,by rw[<-MU0 i 2,h,zt OW];rfl⟩)
  ·exact .L2 (.L2 ⟨i/2,by rw[<-MU0 i 2,h,zt OW];rfl⟩)
theorem eV(a:C0):uL (2*a+1) 2=1/\RH (2*a+1) 2=a:=⟨NU0 _ _ _,zt OW _ _⟩
theorem fV(a:C0):uL (2*a+2) 2=0/\QH (RH (2*a+2) 2) 1=a:=⟨NU0 _ _ _,H6 (· -1) (zt OW a 2)⟩
section
variable{o v:AO}{l r:TT}{k a b:Nat}
theorem Xi:(M00 v l r).o9 (2*a+1)=Og a:=by
 show@L8 (λ _=>AO) _ (Og (RH (2*a+1) 2)) (Y1 (uL (2*a+1) 2) 1)=_;rw[(eV a).1,(eV a).2];rfl
theorem Yi:(M00 v l r).o9 (2*a+2)=Pg a:=by
 show@L8 (λ _=>AO) (Pg (QH (RH (2*a+2) 2) 1)) _ (Y1 (uL (2*a+2) 2) 1)=_;rw[(fV a).1,(fV a).2];rfl
theorem rI0:(M00 v l r).A9 o (2*a+1)=.S3 v (l.A9 o a) r:=by
 show@L8 (λ _=>TT) _ (.S3 v (l.A9 o (RH (2*a+1) 2)) r) (Y1 (uL (2*a+1) 2) 1)=_;rw[(eV a).1,(eV a).2];rfl
theorem sI0:(M00 v l r).A9 o (2*a+2)=.S3 v l (r.A9 o a):=by
 show@L8 (λ _=>TT) (.S3 v l (r.A9 o (QH (RH (2*a+2) 2) 1))) _ (Y1 (uL (2*a+2) 2) 1)=_;rw[(fV a).1,(fV a).2];rfl
theorem tI0:R_ o (k+1) (2*a+1)=.S3 .K4 (R_ o k a) .B0:=by
 show@L8 (λ _=>TT) _ (.S3 .K4 (R_ o k (RH (2*a+1) 2)) .B0) (Y1 (uL (2*a+1) 2) 1)=_;rw[(eV a).1,(eV a).2];rfl
theorem uI0:R_ o (k+1) (2*a+2)=.S3 .K4 .B0 (R_ o k a):=by
 show@L8 (λ _=>TT) (.S3 .K4 .B0 (R_ o k (QH (RH (2*a+2) 2) 1))) _ (Y1 (uL (2*a+2) 2) 1)=_;rw[(fV a).1,(fV a).2];rfl
theorem e11:(2*b+1=2*a+1)=(b=a):=propext ⟨λ h=>lS0 OW (mZ h),λ h=>h▸O⟩
theorem e22:(2*b+2=2*a+2)=(b=a):=propext ⟨λ h=>lS0 OW (mZ (mZ h)),λ h=>h▸O⟩
theorem Zi:¬2*b+1=2*a+2:=λ h=>by have:=H6 (· %2) h;rw[show(2*b+1)%2=1 from(eV b).1,show(2*a+2)%2=0 from(fV a).1]at J2;contradiction
end
def ZY(o:AO)(i j:C0)(f x:AO):Prop:=f=if j=i then o else x
theorem TT.vI0(o:AO):∀(k i j:C0),i<k->ZY o i j ((R_ o k i).o9 j) .K4:=by
 intro k;induction k with
 |K9=>intro i j hi;exact U3 hi (RG _)
 |J9 k ih=>
  intro i j hi;rcases xS i with O|⟨a,O⟩|⟨a,O⟩
  ·rcases xS j with O|⟨b,O⟩|⟨b,O⟩
   ·exact(y3 O).Z3
   ·exact e00 (w3 (NW _)).Z3
   ·exact f00 (w3 (NW _)).Z3
  ·have ha:a<k:=W8 (v80 (X80 a OW)) (ls hi);unfold ZY;rw[tI0];rcases xS j with O|⟨b,O⟩|⟨b,O⟩
   ·exact(w3 (NW _).Z3).Z3
   ·simp only[Xi,e11];exact ih a b ha
   ·exact f00 (w3 λ h=>Zi PJ).Z3
  ·have ha:a<k:=W8 (v80 (ms (X80 a OW))) (ls hi);unfold ZY;rw[uI0];rcases xS j with O|⟨b,O⟩|⟨b,O⟩
   ·exact(w3 (NW _).Z3).Z3
   ·exact e00 (w3 Zi).Z3
   ·simp only[Yi,e22];exact ih a b ha
theorem TT.wI0(o:AO):∀(t:TT)(i j:C0),ZY o i j ((t.A9 o i).o9 j) (cX j):=by
 intro t;induction t with
 |B0=>intro i j;exact TT.vI0 o (i+1) i j (TD _)
 |S3 v l r ihl RA=>
  intro i j;rcases xS i with O|⟨a,O⟩|⟨a,O⟩
  ·rcases xS j with O|⟨b,O⟩|⟨b,O⟩
   ·exact(y3 O).Z3
   ·exact e00 (Xi.ZZ (w3 (NW _)).Z3)
   ·exact f00 (Yi.ZZ (w3 (NW _)).Z3)
  ·unfold ZY;rw[rI0];rcases xS j with O|⟨b,O⟩|⟨b,O⟩
   ·exact(w3 (NW _).Z3).Z3
   ·simp only[Xi,e11];exact ihl a b
   ·exact f00 (Yi.ZZ (w3 λ h=>Zi PJ).Z3)
  ·unfold ZY;rw[sI0];rcases xS j with O|⟨b,O⟩|⟨b,O⟩
   ·exact(w3 (NW _).Z3).Z3
   ·exact e00 (Xi.ZZ (w3 Zi).Z3)
   ·simp only[Yi,e22];exact RA a b
theorem MH(o:AO)(t:TT)(i j:C0):(t.A9 o i).o9 j=if j=i then o else cX j:=TT.wI0 o t i j
theorem Iz(σ:K1)(i:C0)(o:AO)(j:C0):(dU i o).q8 j=if j=i then o else CA j:=MH o QX i j
theorem S_(σ:K1)(o:AO)(j:C0):(si o).q8 j=if j=tJ then o else CA j:=MH o QX tJ j
@[simp] theorem K1.qW0(σ:K1)(i:C0)(o:AO):(dU i o).n=tJ:=O
@[simp] theorem K1.rW0(σ:K1)(o:AO):(si o).n=tJ+1:=O
section
variable{α β:Type}
theorem Sf{P P':α->K1->Prop}{X X':C0->K1->Prop}(hP:∀a s,P a s->P' a s)(hX:∀i s,X i s->X' i s){o:H7 α}(h:aH P X):aH P' X':=by
 induction o with
 |B9 a s=>exact hP a s h
 |K8 i s=>exact hX i s h
 |YG n k ih=>exact λ d hd=>ih d (h d hd)
 |eJ=>exact u4
theorem H7.US0{P:β->K1->Prop}{X:C0->K1->Prop}{f:α->K1->H7 β}{o:H7 α}:(o.S6 f).P1 P X↔aH (λ a s=>(f a s).P1 P X) X:=by
 induction o with
 |B9 a s=>exact tF
 |K8 i s=>exact tF
 |YG n k ih=>exact⟨λ h d hd=>(ih d).mp (h d hd),λ h d hd=>(ih d).C8 (h d hd)⟩
 |eJ=>exact tF
theorem Op{P:β->K1->Prop}{X:C0->K1->Prop}{m:M α}{f:α->M β}{σ:K1}:(F1 m f σ).P1 P X↔(m σ).P1 (λ a s=>(f a s).P1 P X) X:=H7.US0
theorem u9{P:α->K1->Prop}{X:C0->K1->Prop}{w:C0}{o:Q1 α}{σ:K1}(h:(y5 w o σ).P1 P X):∃a,o=E0 a/\P a σ:=by
 cases o using i9 with
 |H0=>exact u4
 |E0 a=>exact⟨a,O,h⟩
end
variable{B:Bs}
def CL(c:K0):Prop:=c=.U0 "tuple"\/c=.U0 "frame"\/c=.U0 "traceback"\/c=.U0 "code"\/c=.U0 "cell"
theorem zE.l9{G:Gh}{h:O1}{a:H1}{o:AO}(x:zE B G h a o)(hn:o≠.K4):∃ob,C3 a=E0 ob/\¬CL yA0:=by
 cases o using FA with
 |K4=>exact U3 O hn
 |M1 l=>obtain⟨vs,k,e,_⟩:=x;exact⟨_,e,by simp[CL]⟩
 |H2 l=>obtain⟨V2,⟨o,es,ep,e,hx,_⟩,_⟩:=x;exact⟨_,e,by rw[hx.1];simp[CL]⟩
 |W6 l=>obtain⟨V2,o,e,hc,_⟩:=x;exact⟨_,e,by rw[hc];simp[CL]⟩
 |w7 c d=>exact⟨_,x.1,by simp[CL]⟩
 |K8 cx c d=>obtain⟨vs,e,_⟩:=x;exact⟨_,e,by simp[CL]⟩
 |qA k=>obtain⟨o,e,hc⟩:=B.b30 k h a x;exact⟨o,e,by rw[hc];simp[CL]⟩
 |bm f s=>obtain⟨u,e,_⟩:=x;exact⟨_,e,by simp[CL]⟩
 |S4=>obtain⟨x,t,y,u,k,e⟩:=x;exact⟨_,e,by simp[CL]⟩
 |ti=>exact jD
theorem zE.E5{G G':Gh}{h h':O1}{a:H1}{o:AO}(x:zE B G h a o)(le:FO G')(Q0:CC F5 h h')(k3:XE h h')(ha:∀ob,C3 a=E0 ob->D3 a=E0 ob)
  (hd:∀d l,d<J3->P3 d=.W6 l->∃l',G'.CA d=.W6 l'):zE B G' h' a o:=by
 cases o using FA with
 |K4=>trivial
 |M1 l=>obtain⟨vs,k,e,r⟩:=x;exact⟨vs,k,ha _ e,WI le Q0⟩
 |H2 l=>obtain⟨V2,⟨o,es,ep,e,q⟩,r⟩:=x;exact⟨V2,⟨o,es,ep,ha _ e,q⟩,WI le Q0⟩
 |W6 l=>obtain⟨V2,o,e,hc,hn,nd,r⟩:=x;exact⟨V2,o,ha _ e,hc,hn.at λ o e=>ha _ e,nd,WI le Q0⟩
 |w7 c d=>
  obtain⟨e,hl,l,q⟩:=x;exact⟨by rw[IE d hl];exact ha _ e,W8 hl Bf,hd d l hl q⟩
 |K8 cx c d=>
  obtain⟨vs,e,hl,⟨l,q⟩,t⟩:=x;exact⟨vs,by rw[IE d hl];exact ha _ e,W8 hl Bf,hd d l hl q,k3.pW0 t⟩
 |qA k=>
  refine B.jI0 k h h' a (λ b o e q=>?_) x;rcases q with O|q
  ·exact ha _ e
  ·exact k3.bA b o e q
 |bm f s=>obtain⟨u,e,r⟩:=x;exact⟨u,ha _ e,WI le Q0⟩
 |S4=>obtain⟨x,t,y,u,k,e⟩:=x;exact⟨x,t,y,u,k,ha _ e⟩
 |ti=>exact jD
theorem Zg.xI0{G:Gh}{h:O1}(I:Zg B G h){b:H1}(x:w9 G b):∃ob,C3 b=E0 ob/\¬CL yA0:=by
 obtain⟨i,hi,hn,O⟩:=x;exact(I.QF i hi).l9 hn
theorem Zg.yI0{G:Gh}{h:O1}(I:Zg B G h){b:H1}(e:C3 b=H0):¬w9 G b:=λ x=>by
 obtain⟨ob,e',hn⟩:=I.xI0 x;rw[e]at e';contradiction
theorem wm{h h':O1}(k:∀b o,C3 b=E0 o->D3 b=E0 o):XE h h':=
 ⟨λ b o ts e c d=>⟨o,ts,k b o e,c,d,O⟩,λ b o e c d=>⟨o,k b o e,c,d⟩,λ b o e _=>k b o e⟩
theorem J1.vB{A:C6}{G:Gh}{s:D1}(g:J1 B A G s){h':O1}{tk:P6}(k:∀b o,F3 b=E0 o->D3 b=E0 o):
  J1 B A G {s with B3:=h',B4:=tk}/\A3 B N2 G s G {s with B3:=h',B4:=tk}:=by
 have k3:=wm k;have Q0:CC F5 W0 h':=λ b vs n _ e=>k _ _ e;obtain⟨l,hl,hf⟩:=WJ;refine⟨⟨LE,⟨UG,λ i hi=>(HA i hi).E5 (.M5 G) Q0 k3 (λ ob e=>k _ _ e) λ d l _ e=>⟨l,e⟩,kL,yC,λ a ha=>⟨(DE a ha).1,by obtain⟨o,e⟩:=(DE a ha).2;exact⟨o,k _ _ e⟩⟩⟩,λ b o e h1 h2 h3=>k _ _ (VB b o e h1 h2 h3),
  xR _ _ (λ b o e _=>k _ _ e) lE,l,hl,Zf k3⟩,⟨h',tk,O⟩,.M5 G,λ b x=> .S2 x,λ b o e=>⟨o,k _ _ e⟩,λ b o e _ _ _=>⟨o,k _ _ e,.M5 o⟩,Q0,k3⟩
theorem J1.B4{A:C6}{G:Gh}{s:D1}(g:J1 B A G s)(tk:P6):J1 B A G {s with B4:=tk}/\A3 B N2 G s G {s with B4:=tk}:=g.vB (h':=W0) λ _ _ e=>e
def Gh.SB(G:Gh)(o:AO)(a:H1):Gh:=⟨qL o,λ i=>if i=J3 then a else Y2 i,J5,F5⟩
theorem Gh.BX0(G:Gh)(o:AO)(a:H1):FO (r7 o a):=⟨UN _,λ i hi=>w3 (ZC hi),O,B8 _,λ _ _=>O⟩
theorem kE(G:Gh)(o:AO)(a:H1)(j:C0):(r7 o a).σ.q8 j=if j=J3 then o else P3 j:=S_ ..
theorem J1.SB{A:C6}{G:Gh}{s:D1}(g:J1 B A G s){h':O1}{tk:P6}{a:H1}{o:AO}(k:∀b o,F3 b=E0 o->D3 b=E0 o)(ha:F3 a=H0)
  (hb:VH.hO<=a)(ho:zE B (r7 o a) h' a o):J1 B A (r7 o a) {s with B3:=h',B4:=tk}/\A3 B N2 G s (r7 o a) {s with B3:=h',B4:=tk}:=by
 have k3:=wm k;have Q0:CC F5 W0 h':=λ b vs n _ e=>k _ _ e;have le:=qU o a;obtain⟨l,hl,hf⟩:=WJ;have lt:∀i,i<(r7 o a).σ.n->i<J3\/i=J3:=λ i hi=>ch hi;have ne:∀i,i<J3->i≠J3:=λ i hi=>ZC hi;have fr:∀i,i<J3->P3 i≠.K4->Y2 i≠a:=λ i hi hn e=>by
  obtain⟨ob,e',_⟩:=(HA i hi).l9 hn;rw[e,ha]at e';contradiction
 refine⟨⟨⟨Tn,Wm,On⟩,⟨λ i j hi hj ni nj e=>?_,λ i hi=>?_,λ i hi=>?_,λ i hi hn=>?_,λ a ha=>⟨(DE a ha).1,by obtain⟨o,e⟩:=(DE a ha).2;exact⟨o,k _ _ e⟩⟩⟩,λ b o e h1 h2 h3=>k _ _ (VB b o e h1 h2 h3),
  xR _ _ (λ b o e _=>k _ _ e) lE,l,hl,Zf k3⟩,⟨h',tk,O⟩,le,λ b x=>?_,λ b o e=>⟨o,k _ _ e⟩,λ b o e _ _ _=>⟨o,k _ _ e,.M5 o⟩,Q0,k3⟩
 ·rw[kE]at ni nj;rcases lt i hi with hi|O<;>rcases lt j hj with hj|O
  ·rw[w3 (ne i hi)]at ni;rw[w3 (ne j hj)]at nj;rw[IE i hi,IE j hj]at e;exact UG i j hi hj ni nj e
  ·rw[w3 (ne i hi)]at ni;rw[IE i hi]at e;exact U3 (e.U2 (y3 O)) (fr i hi ni)
  ·rw[w3 (ne j hj)]at nj;rw[IE j hj]at e;exact U3 (xc (y3 O)) (fr j hj nj)
  ·rfl
 ·rcases lt i hi with hi|O
  ·rw[kE,w3 (ne i hi),IE i hi];exact(HA i hi).E5 le Q0 k3 (λ ob e=>k _ _ e) λ d l hd e=>⟨l,by rw[kE,w3 (ne d hd)];exact e⟩
  ·rw[kE,y3 O,show(r7 o a).ρ J3=a from y3 O];exact ho
 ·have NM:J3+1<=i:=hi;rw[kE,w3 (by omega)];exact kL i (by exact NP ‹_›)
 ·rcases lt i hi with hi|O
  ·rw[kE,w3 (ne i hi)]at hn;rw[IE i hi];exact yC i hi hn
  ·rw[show(r7 o a).ρ J3=a from y3 O];exact TE hb
 ·obtain⟨i,hi,hn,O⟩:=x;rcases lt i hi with hi|O
  ·rw[kE,w3 (ne i hi)]at hn;rw[IE i hi];exact .S2 ⟨i,hi,hn,O⟩
  ·rw[show(r7 o a).ρ J3=a from y3 O];exact .L2 ha
def Gh.Km(G:Gh)(i:C0)(o:AO):Gh:=⟨G.dU i o,Y2,J5,F5⟩
theorem Gh.sW0(G:Gh)(i:C0)(o:AO):FO (gI i o):=⟨B8 _,λ _ _=>O,O,B8 _,λ _ _=>O⟩
theorem eU(G:Gh)(i:C0)(o:AO)(j:C0):(gI i o).σ.q8 j=if j=i then o else P3 j:=Iz ..
theorem J1.Km{A:C6}{G:Gh}{s:D1}(g:J1 B A G s){h':O1}{tk:P6}{i:C0}{o:AO}(hi:i<J3)(hn:P3 i≠.K4)(IS:o≠.K4)
  (hd:∀l,P3 i=.W6 l->∃l',o=.W6 l')
  (k:∀b o,b≠Y2 i->F3 b=E0 o->D3 b=E0 o)(ho:zE B (gI i o) h' (Y2 i) o):
  J1 B A (gI i o) {s with B3:=h',B4:=tk}/\A3 B N2 G s (gI i o) {s with B3:=h',B4:=tk}:=by
 obtain⟨ob,JS,Ma⟩:=(HA i hi).l9 hn;have hZ:∀b∈GG,b≠Y2 i:=λ b hb q=>by
  obtain⟨o,e⟩:=jn b hb;rw[q,yC i hi hn]at e;contradiction
 have ne:∀{b sM},F3 b=E0 sM->CL sM.O2->b≠Y2 i:=λ e f q=>by rw[q,JS]at e;obtain O:=I3 e;exact Ma f
 have k3:XE W0 h':=⟨λ b o ts e c d=>⟨o,ts,k b o (ne e (.L2 (.L2 (.S2 c)))) e,c,d,O⟩,λ b o e c d=>⟨o,k b o (ne e (.L2 (.S2 c))) e,c,d⟩,λ b o e c=>k b o (ne e (.L2 (.L2 (.L2 (.S2 c.1))))) e⟩;have Q0:CC F5 W0 h':=λ b vs n _ e=>k _ _ (ne e (.S2 O)) e;have le:=kn i o;obtain⟨l,hl,hf⟩:=WJ;have GE:∀b ob,F3 b=E0 ob->∃o',D3 b=E0 o':=λ b ob e=>by
  by_cases q:b=Y2 i
  ·obtain⟨sM,e',_⟩:=ho.l9 IS;exact⟨sM,q▸e'⟩
  ·exact⟨ob,k _ _ q e⟩
 have v9:∀b,w9 (gI i o) b->w9 G b:=λ b zz=>nU zz λ j hj gV e=>by
  rw[eU]at gV;by_cases q:j=i
  ·exact⟨j,hj,q▸hn,e⟩
  ·rw[w3 q]at gV;exact⟨j,hj,gV,e⟩
 refine⟨⟨⟨Tn,Wm,On⟩,⟨λ a b ha hb na nb e=>?_,λ j hj=>?_,λ j hj=>?_,λ j hj gV=>?_,λ a ha=>⟨(DE a ha).1,by obtain⟨o,e⟩:=(DE a ha).2;exact GE a o e⟩⟩,λ b o e h1 h2 h3=>k _ _ (λ q=>?_) (VB b o e h1 h2 h3),
  xR _ _ (λ b o e hz=>k _ _ (NB0 (hZ b) λ c=>Mo (λ c=>ne e (.L2 (.L2 (.L2 (.S2 c.1))))) λ zz z=>DM zz λ x q=>by rw[z,yC i hi hn]at q;contradiction) e) lE,l,hl,Zf k3⟩,⟨h',tk,O⟩,le,λ b x=> .S2 (v9 b x),λ b o e=>?_,λ b o e h1 _ _=>⟨o,k _ _ (λ q=>h1 ⟨i,hi,hn,ZK⟩) e,.M5 o⟩,Q0,k3⟩
 ·rw[eU]at na nb;refine UG a b ha hb (λ q=>?_) (λ q=>?_) e
  ·by_cases z:a=i
   ·exact hn (z▸q)
   ·rw[w3 z]at na;exact na q
  ·by_cases z:b=i
   ·exact hn (z▸q)
   ·rw[w3 z]at nb;exact nb q
 ·rw[eU];by_cases q:j=i
  ·rw[y3 q];exact q▸ho
  ·rw[w3 q];by_cases ha:P3 j=.K4
   ·rw[ha];trivial
   ·refine(HA j hj).E5 le Q0 k3 (λ ob e=>k _ _ (λ z=>q (UG j i hj hi ha hn z)) e) λ d l eA e=>?_;rw[eU];by_cases z:d=i
    ·rw[y3 z];exact hd l (z▸e)
    ·rw[w3 z];exact⟨l,e⟩
 ·rw[eU,w3 (λ q:j=i=>fZ _ (W8 hi (q▸hj)))];exact kL j hj
 ·rw[eU]at gV;by_cases z:j=i
  ·exact yC j hj (z▸hn)
  ·rw[w3 z]at gV;exact yC j hj gV
 ·have:=yC i hi hn;rw[<-q,e]at J2;contradiction
 ·exact GE b o e
end
end
section
section
variable{B:Bs}
noncomputable abbrev Bs.M(B:Bs):YB:=U4 gE oE
inductive Po{α β:Type}(B:Bs)(R:Gh->O1->α->β->Prop)(F:H1->Prop)(A:C6)(G:Gh)(s:D1)(P:α->K1->Prop)(b:β)(s':D1):Prop
 |mk(G':Gh)(a:α)(st:A3 B F G s G' s')(g:J1 B A G' s')(r:R G' U6 a b)(p:P a wF)
inductive vG(G:Gh)(i:C0)(e:K0):Prop
 |mk(l:i<J3)(e1:e=.J0 (Y2 i))(cx:I1)(c d:C0)(q8:P3 i=.K8 cx c d)
inductive Px(B:Bs)(F:H1->Prop)(A:C6)(G:Gh)(s:D1)(X:C0->K1->Prop)(e:K0)(s':D1):Prop
 |mk(G':Gh)(i:C0)(st:A3 B F G s G' s')(g:J1 B A G' s')(x:vG G' i e)(p:X i wF)
def V4{α β:Type}(B:Bs)(R:Gh->O1->α->β->Prop)(F:H1->Prop)(A:C6)(m:M α)(t:Y7 β)(G:Gh)(s:D1):Prop:=
 ∀P X,(m R1).P1 P X->V0 R2 A t (Po B R F A G s P) (Px B F A G s X) s
section
variable{α β γ δ:Type}{R:Gh->Heap->α->β->Prop}{R':Gh->Heap->γ->δ->Prop}{F:Addr->Prop}{A:Around}{G G':Gh}{s s':Shared}
theorem Po.I8{P:α->K1->Prop}{b:β}{O7:D1}(st:A3 B F G s G' s')(h:Po B R F A G' s' P b O7):Po B R F A G s P b O7:=
 let⟨YQ,a,x,g,r,p⟩:=h;⟨YQ,a,gN x,g,r,p⟩
theorem Px.I8{X:C0->K1->Prop}{e:K0}{O7:D1}(st:A3 B F G s G' s')(h:Px B F A G' s' X e O7):Px B F A G s X e O7:=
 let⟨YQ,a,x,g,r,p⟩:=h;⟨YQ,a,gN x,g,r,p⟩
theorem V4.I8{m:M α}{t:Y7 β}{P:α->K1->Prop}{X:C0->K1->Prop}(h:V4 B R F A m t G' s')(st:A3 B F G s G' s')(a:(m wF).P1 P X):
  V0 R2 A t (Po B R F A G s P) (Px B F A G s X) s':=V3 (h P X a) (λ _ _=>Po.I8 st) λ _ _=>Px.I8 st
theorem V4.s8{m:M α}{t:Y7 β}{f:α->M γ}{P:γ->K1->Prop}{X:C0->K1->Prop}{K:β->D1->Prop}(h:V4 B R F A m t G s)(a:(F1 m f R1).P1 P X)
  (k:∀G' s' a b,A3 B F G s G' s'->J1 B A G' s'->R G' U6 a b->(f a wF).P1 P X->K b s'):V0 R2 A t K (Px B F A G s X) s:=
 V3 (h _ _ (j6 a)) (λ b s' Z2=>by obtain⟨G',a,st,g,r,p⟩:=Z2;exact k G' s' a b st g r p) λ _ _ x=>x
theorem V4.NE{m:M α}{t:Y7 β}{f:α->M γ}{P:γ->K1->Prop}{X:C0->K1->Prop}{K:β->D1->Prop}(h:V4 B R F A m t G' s')(st:A3 B F G s G' s')(a:(F1 m f wF).P1 P X)
  (k:∀iV O7 a b,A3 B F G s iV O7->A3 B F G' s' iV O7->J1 B A iV O7->R iV O7.B3 a b->(f a iV.σ).P1 P X->K b O7):V0 R2 A t K (Px B F A G s X) s':=
 V3 (h _ _ (j6 a)) (λ b O7 Z2=>by obtain⟨iV,a,SA,g,r,p⟩:=Z2;exact k iV O7 a b (gN SA) SA g r p) λ _ _ x=>x.I8 st
theorem nz{P:α->K1->Prop}{a:α}{b:β}(g:J1 B A G s)(r:R G W0 a b)(p:P a R1):Po B R F A G s P b s:=⟨G,a,.M5 ..,g,r,p⟩
theorem wN{P:α->K1->Prop}{a:α}{b:β}(st:A3 B F G s G' s')(g:J1 B A G' s')(r:R G' U6 a b)(p:P a wF):Po B R F A G s P b s':=⟨G',a,st,g,r,p⟩
theorem FD{w:C0}{t:Y7 β}:V4 B R F A (F2 w:M α) t G s:=λ _ _ x=>jD
end
noncomputable abbrev RV:Gh->O1->PV->K0->Prop:=λ G h p v=>H3 G h p v
theorem zI0{c n d m:C0}(h:sC c n=sC d m)(h0:sC c n≠0):c=d/\n=m:=by
 unfold sC at h h0;cases hn:Y1 n 0 with
 |I0=>rw[hn]at h0;exact U3 O h0
 |R0=>
  cases hc:Y6 c 1114112 with
  |R0=>rw[hn,hc]at h0;exact U3 O h0
  |I0=>
   rw[hn,hc]at h h0;cases hm:Y1 m 0 with
   |I0=>rw[hm]at h;exact U3 h h0
   |R0=>
    cases hd:Y6 d 1114112 with
    |R0=>rw[hm,hd]at h;exact U3 h h0
    |I0=>
     rw[hm,hd]at h;have h1:c<1114112:=by simpa[IH]using hc
     have h2:d<1114112:=by simpa[IH]using hd
     have h3:c+1+1114113*n=d+1+1114113*m:=h;exact ω21 ‹_› ‹_› ‹_›
theorem Us{c n:C0}(h0:sC c n≠0):sC c n≠1:=by
 unfold sC at h0 ⊢;cases hn:Y1 n 0 with
 |I0=>rw[hn]at h0;exact U3 O h0
 |R0=>
  cases hc:Y6 c 1114112 with
  |R0=>rw[hn,hc]at h0;exact U3 O h0
  |I0=>
   have h1:n≠0:=tA hn;show c+1+1114113*n≠1;omega
theorem aY{c n:C0}(h0:sC c n≠0):n≠0:=by
 rintro O;exact h0 O
theorem AJ0:∀{l m:P0 C0},c7 l=c7 m->c7 l≠0->l=m:=by
 intro l;induction l with
 |B0=>
  intro m h h0;cases m using i5 with
  |B0=>rfl
  |A0 c m=>exact U3 PJ (Us (show c7 (c::m)≠0 from h▸h0))
 |A0 c l ih=>
  intro m h h0;cases m using i5 with
  |B0=>exact U3 h (Us (h0:sC c (c7 l)≠0))
  |A0 d m=>
   obtain⟨O,e⟩:=zI0 (h:sC c (c7 l)=sC d (c7 m)) h0;rw[ih e (aY h0)]
theorem mO{x y:u0}(h:vc x=vc y)(h0:vc x≠0):x=y:=by
 have:=AJ0 h h0;obtain⟨⟨l⟩⟩:=x;obtain⟨⟨m⟩⟩:=y;simpa using J2
theorem Vs(x:C0):I4 x .B0=H0:=O
theorem xH(x k:C0)(v r:PV):I4 x (.kv k v r)=if k=x then E0 v else I4 x r:=by
 show@L8 (λ _=>Q1 PV) (I4 x r) (E0 v) (Y1 k x)=_;cases h:Y1 k x with
 |I0=>rw[y3 (M6 h)]
 |R0=>rw[w3 (tA h)]
theorem ZD(x:C0)(w:PV)(y:C0):∀l:PV,I4 y (A6 x w l)=if y=x then E0 w else I4 y l:=by
 have mA:∀l:PV,I4 y l=H0->I4 y (.kv x w .B0)=if y=x then E0 w else I4 y l:=λ l hl=>by
  rw[xH,Vs,hl];by_cases h:y=x
  ·rw[y3 PJ,y3 h]
  ·rw[w3 (λ e=>h td),w3 h]
 intro l;induction l with
 |kv k v r _ ih=>
  show I4 y (bif Y1 k x then .kv k w r else .kv k v (A6 x w r))=_;cases h:Y1 k x with
  |I0=>
   have:=M6 h;subst J2;rw[A_,xH,xH];by_cases e:k=y
   ·rw[y3 e,y3 td]
   ·rw[w3 e,w3 (λ q=>e ZK),w3 e]
  |R0=>
   have:=tA h;rw[NH,xH,xH,ih];by_cases e:k=y
   ·subst e;rw[y3 O,w3 J2,y3 O]
   ·rw[w3 e,w3 e]
 |_=>exact mA _ O
def D0:u0->Prop:=λ y=>y=".0"
structure V5(B:Bs)(N0:o6)(D:u0->Prop)(O0:PV)(G:Gh)(h:O1):Prop where
 ns:∃m,eH NA m/\∀x v,CB x=E0 .G7->¬D x->vc x≠0->I4 (vc x) O0=E0 v->∃u,m x=E0 u/\H3 G h v u
 l6:∀x v,CB x=E0 .l6\/CB x=E0 .j7->vc x≠0->I4 (vc x) O0=E0 v->∃c u,mF x=E0 c/\h.cW c (E0 u)/\H3 G h v u
 ai:∀x c,mF x=E0 c->∃u,h.cW c u
 rU:∀x,CB x=E0 .l6->∃c,mF x=E0 c
 dP:∀x y c,mF x=E0 c->mF y=E0 c->x=y
 Nc:¬w9 G NA/\TG NA=H0/\NA∉GG
 Ws:∀x c,mF x=E0 c->¬w9 G c/\TG c=H0/\c∉GG
 bA:B.Ti N0.bA
theorem Pn{h h':O1}{a:H1}{m}(x:eH a m)(k:∀o,C3 a=E0 o->∃o',D3 a=E0 o'/\f_=I9):xm a m:=by
 symm;obtain⟨o,es,ep,e,d,r⟩:=x;obtain⟨o',e',d'⟩:=k o e;ext;exact⟨o',es,ep,e',d'.U2 d,r⟩
theorem cW.M3{h h':O1}{a:H1}{m}(x:h.cW a m)(k:∀o,C3 a=E0 o->∃o',D3 a=E0 o'/\f_=I9):m00 a m:=by
 obtain⟨o,e,d⟩:=x;obtain⟨o',e',d'⟩:=k o e;exact⟨o',e',d'.U2 d⟩
section
variable{F:Addr->Prop}{A:Around}{G G':Gh}{s s':Shared}{cenv:Env}{D:Str->Prop}{env:PV}
theorem A3.M3{b:H1}{o:D4}(st:A3 B F G s G' s')(e:F3 b=E0 o)(h1:¬w9 G b)(h2:¬F b)(h3:b∉GG)(h4:∀vs,I9≠.T5 vs):∃o',VL b=E0 o'/\f_=I9:=
 let⟨o',e',q⟩:=MX b o e h1 h2 h3;⟨o',e',q.nI0 h4⟩
theorem V5.K6(x:V5 B N0 D O0 G W0)(st:A3 B F G s G' s')(hL:¬F NA)(hC:∀y c,mF y=E0 c->¬F c):V5 B N0 D O0 G' U6:=by
 obtain⟨m,hn,hm⟩:=x.ns;have kc:∀y c u,mF y=E0 c->s.ld c u->s'.ld c u:=λ y c u hl hc=>by
  obtain⟨o,e,d⟩:=id hc;exact cW.M3 hc λ o' e'=>N00 e' (Fg y c hl).1 (hC y c hl) (Fg y c hl).2.2 (by rw[e]at e';obtain O:=I3 e';rw[d];intro vs q;contradiction)
 have v9:∀b o,F3 b=E0 o->¬w9 G b->¬w9 G' b:=λ b o e n q=>by
  rcases Tf b q with h|h
  ·exact n h
  ·rw[e]at h;contradiction
 refine⟨⟨m,?_,λ y v h1 h2 h3 h4=>?_⟩,λ y v h1 h3 h4=>?_,λ y c hl=>?_,x.rU,x.dP,⟨?_,Gg.2⟩,λ y c hl=>⟨?_,(Fg y c hl).2⟩,x00⟩
 ·obtain⟨o,es,ep,e,d,_⟩:=id hn;exact Pn hn λ o' e'=>N00 e' Gg.1 hL Gg.2.2 (by rw[e]at e';obtain O:=I3 e';rw[d];intro vs q;contradiction)
 ·obtain⟨u,hu,r⟩:=hm y v h1 h2 h3 h4;exact⟨u,hu,Fa st⟩
 ·obtain⟨c,u,hl,hc,r⟩:=x.l6 y v h1 h3 h4;exact⟨c,u,hl,kc y c _ hl hc,Fa st⟩
 ·obtain⟨u,hu⟩:=x.ai y c hl;exact⟨u,kc y c u hl hu⟩
 ·obtain⟨o,_,_,e,_⟩:=hn;exact v9 _ o e Gg.1
 ·obtain⟨u,o,e,_⟩:=x.ai y c hl;exact v9 _ o e (Fg y c hl).1
theorem V5.XZ(x:V5 B N0 D O0 G W0)(st:A3 B N2 G s G' s'):V5 B N0 D O0 G' U6:=x.K6 st (λ q=>q) λ _ _ _ q=>q
def D5(N0:o6)(L:P0 (u0×FK))(b:H1):Prop:=b=NA\/∃x,G9 x=E0 .l6/\mF x=E0 b
theorem J1.Xs{L:H1}{h':O1}{tk:P6}(g:J1 B A G s)(hL:¬w9 G L)(hb:TG L=H0)(hZ:L∉GG)
  (hk:∀b o,b≠L->F3 b=E0 o->D3 b=E0 o)(ho:∃o,F3 L=E0 o/\(∀vs n,o≠F8 vs n)/\(∀vs,I9≠.T5 vs)/\∃o',D3 L=E0 o'/\YK=H4/\∀vs,f_≠.T5 vs)
  (hF:F L):J1 B A G {s with B3:=h',B4:=tk}/\A3 B F G s G {s with B3:=h',B4:=tk}:=by
 symm;obtain⟨oL,e,n1,n2,Oc,e',hc,hf⟩:=ho;have ne:∀{b o},F3 b=E0 o->o≠oL->b≠L:=λ x c q=>c (I3 (x.ZZ (q▸e)));have k3:XE W0 h':=⟨λ b o ts x c d=>⟨o,ts,hk b o (ne x λ q=>n2 _ (q▸d)) x,c,d,O⟩,λ b o x c d=>by
  by_cases q:b=L
  ·obtain O:=I3 (xc (q▸x));exact⟨Oc,q▸e',hc.U2 c,hf⟩
  ·exact⟨o,hk b o q x,c,d⟩,λ b o x c=>hk b o (ne x λ q=>DM c.2 λ _ y=>n2 _ (q▸y)) x⟩
 have Q0:CC F5 W0 h':=λ b vs n _ x=>hk _ _ (ne x λ q=>n1 vs n ZK) x;obtain⟨l,hl,C9⟩:=WJ;ext;refine⟨⟨LE,⟨UG,λ i hi=>?_,kL,yC,λ a ha=>⟨(DE a ha).1,by obtain⟨o,e⟩:=(DE a ha).2;exact if q:a=L then⟨Oc,q▸e'⟩else⟨o,hk a o q e⟩⟩⟩,λ b o x h1 h2 h3=>hk _ _ (λ q=>by rw[q,hb]at x;contradiction) (VB b o x h1 h2 h3),
  xR _ _ (λ b o x z=>hk _ _ (λ q=>Rg (λ z=>hZ (q▸z)) λ z=>Rg (λ z=>ne x (λ r=>DM z.2 λ _ y=>n2 _ (r▸y)) q) λ zz=>DM zz λ y z=>by rw[q,hb]at z;contradiction) x) lE,l,hl,C9.MC k3⟩,⟨h',tk,O⟩,.M5 G,λ b x=> .S2 x,λ b o x=>?_,λ b o x h1 h2 h3=>⟨o,hk _ _ (λ q=>h2 (q▸hF)) x,.M5 o⟩,Q0,k3⟩
 ·by_cases ha:P3 i=.K4
  ·rw[ha];trivial
  ·exact(HA i hi).E5 (.M5 G) Q0 k3 (λ ob x=>hk _ _ (λ q=>hL ⟨i,hi,ha,q⟩) x) λ d l _ x=>⟨l,x⟩
 ·by_cases q:b=L
  ·exact⟨Oc,q▸e'⟩
  ·exact⟨o,hk b o q x⟩
end
end
end
section
section
variable{B:Bs}
structure S7(B:Bs)(g:C0->Q1 PV)where
 mg:u0->Q1 K0
 mb:u0->Q1 K0
 hmg:∀h,YD B h->eH OP mg
 hmb:∀h,YD B h->eH kW mb
 noLimit:∀h,YD B h->h.NoLimit
 lm:∀x p,A5 x=I0->g (vc x)=E0 p->∃v,mg x=E0 v/\∀h av,YD B h->(∀a∈av,TG a=H0)->rJ av p h v
 bi:∀x v,(x,v)∈[((("len":u0)),UW "len"),("isinstance",.Z4 "isinstance"),("sorted",.Z4 "sorted"),("str",.U0 "str"),("tuple",.U0 "tuple"),("list",.U0 "list"),("dict",.U0 "dict"),
  ("zip",.U0 "zip"),("enumerate",.U0 "enumerate"),("range",.U0 "range")]->mg x=H0/\mb x=E0 v
structure n9(N0:o6)(L:z5):Prop where
 fn:IP=.sF
 F0:∀x,G9 x=E0 .G7->CB x=E0 .G7
 l6:∀x,G9 x=E0 .l6->CB x=E0 .l6
 j7:∀x,G9 x=E0 .j7->CB x=E0 .l6\/CB x=E0 .j7
 lm:∀x,G9 x=E0 .SL->CB x=E0 .SL
 dE:WL=OP
 pF:N0.pF=kW
 ji:CB "__class__"≠E0 .j7
structure wG(A:C6)(N0:o6)(L:z5):Prop extends n9 N0 L where
 HD:∃L0 e cK,dN=E0 (e::cK)/\e.HD=E0 L0/\lW=E0 L0
 wZ:F9=H0
theorem Ys{G:Gh}{h:O1}{p:PV}{v:K0}(x:rJ F5 p h v):H3 G h p v:=
 (XY (VN _) (λ i hi=>U3 hi (RG i)) (λ b vs k hb e=>⟨hb,e⟩) (λ _ _ z=>Rg) (λ _ _ z=>Rg) (λ _ _ z=>Rg) p).1 v x
theorem DL{x:u0}(h:A5 x=I0):(x==("__debug__":u0))=R0/\(x==("__classdict__":u0))=R0/\vc x≠0:=by
 simp only[A5,N5,FP]at h;exact⟨h.1.1.1,h.1.1.2,tA h.2⟩
theorem BJ0{x:u0}(h:A5 x=I0):x≠".0":=by
 simp only[A5,N5,FP]at h;exact λ e=>by have:=h.1.2;rw[e]at J2;exact U3 J2 (by decide)
section
variable{g:Nat->Option PV}{A:Around}{G:Gh}{s:Shared}{cenv:Env}{L:Kinds}{D:Str->Prop}{env:PV}{P:PV->K1->Prop}{X:Nat->K1->Prop}{F:Addr->Prop}
theorem uI{E:K0->D1->Prop}(ES:n9 N0 L)(er:V5 B N0 D0 O0 G W0){x:u0}{p:T3}{v:PV}(hn:A5 x=I0)(hl:n7 L x=I0)(hv:I4 (vc x) O0=E0 v){K:K0->D1->Prop}
  (hK:∀u,H3 G W0 v u->K u s):V0 R2 A (Q5 (.u3 x p) N0) K E s:=by
 obtain⟨n1,n2,n3⟩:=DL hn;refine XV0 ?_ n1;have cf:(CB x=E0 .l6\/CB x=E0 .j7)->V0 R2 A (loadName N0 x) K E s:=λ q=>by
  obtain⟨c,u,hc,hi,r⟩:=O00 x v q n3 hv;rcases q with k|k
  ·exact wpAny_loadName_cell iP k hc hi (hK u r)
  ·exact wpAny_loadName_free iP k hc hi (hK u r) n2
 rcases HC0 hl with q|q|q
 ·obtain⟨m,hm,hr⟩:=lU;obtain⟨u,hu,r⟩:=hr x v (pz x q) (BJ0 hn) n3 hv;exact vS0 iP (pz x q) hm hu (hK u r)
 ·exact cf (.S2 (P00 x q))
 ·exact cf (ES.j7 x q)
theorem e30(ES:n9 N0 L)(gd:J1 B A G s)(ER:V5 B N0 D0 O0 G W0){x:u0}{D2:T3}(hn:A5 x=I0)(hl:n7 L x=I0):
  V4 B RV F A (y5 73 (I4 (vc x) O0)) (Q5 (.u3 x D2) N0) G s:=by
 intro P X M0;obtain⟨v,hv,hP⟩:=u9 M0;exact uI ES ER hn hl hv λ u r=> .EB gd r hP
theorem f30(BF:S7 B g)(ES:n9 N0 L)(gd:J1 B A G s){x:u0}{v:K0}(hv:VF x=E0 v)(hg:E7 L x=I0)(hd:(x==("__debug__":u0))=R0){p:T3}{Q E:K0->D1->Prop}(h:Q v s):V0 R2 A (Q5 (.u3 x p) N0) Q E s:=by
 refine Z80 iP (WA0 x (Zq hg)) (OT0 (mg:=VF) ?_ hv h) hd;rw[Go];exact am _ IC
theorem jV(BF:S7 B g)(ES:n9 N0 L)(gd:J1 B A G s){x:u0}{v:K0}(TA:VF x=H0/\UJ x=E0 v)(hg:E7 L x=I0)(hd:(x==("__debug__":u0))=R0){p:T3}{Q E:K0->D1->Prop}(h:Q v s):
  V0 R2 A (Q5 (.u3 x p) N0) Q E s:=by
 refine Z80 iP (WA0 x (Zq hg)) (loadGlobal_builtin (mg:=VF) (mb:=UJ) ?_ TA.1 ?_ TA.2 h) hd
 ·rw[Go];exact am _ IC
 ·rw[ES.pF];exact BF.hmb _ IC
theorem g30(BF:S7 B g)(ES:n9 N0 L)(gd:J1 B A G s){x:u0}{D2:T3}{p:PV}(hn:A5 x=I0)(hl:E7 L x=I0)(hp:g (vc x)=E0 p):
  V4 B RV F A (W1 p) (Q5 (.u3 x D2) N0) G s:=by
 obtain⟨n1,n2,n3⟩:=DL hn;intro P X M0;obtain⟨v,hv,hr⟩:=BF.lm x p hn hp;exact f30 BF ES gd hv hl n1 (.EB gd (Ys (hr _ _ IC λ a ha=>(ln a ha).1)) M0)
theorem Tx(gd:J1 B A G s){c:Ef}{k:C0}{D2:T3}{p:PV}(h:bO c=.v0 p):V4 B RV F A (W1 p) (Q5 (.H8 c k D2) N0) G s:=by
 intro P X M0;rw[arm_eval_Constant];symm;have gt:=NJ (X4+1);have nm:∀{b},N2 b->F b:=λ q=>Q6;ext;cases c with
 |H0=>cases h;exact E2 (.EB (a:=SH) gd (eI0.C8 O) M0)
 |O3 b=>cases h;exact E2 (.EB (a:=PV.O3 b) gd (fI0.C8 O) M0)
 |j0 i=>cases h;exact V90 (.at (a:=iU i) (gt.2.E5 λ _ q=>Q6) gt.1 (gI0.C8 ⟨_,O⟩) M0)
 |Z0 x=>
  change(bif Y1 (vc x) 0 then j00 else .v0 (.Z0 (vc x)))=C.v0 p at h;cases hx:Y1 (vc x) 0 with
  |I0=>rw[hx]at h;contradiction
  |R0=>
   rw[hx]at h;cases h;exact kU0 (.at (a:=PV.Z0 (vc x)) (gt.2.E5 λ _ q=>Q6) gt.1 (X30.mk (tA hx) _ _ O O) M0)
 |_=>contradiction
theorem i30(W2:u0)(hash:B2)(k v:K0)(o:D4):(pd W2 hash k v o).O2=H4:=by
 rw[D4.putName_eq];unfold D4.putNameByArray;obtain⟨c,d,dt,sl⟩:=o;cases dt with
 |H2 es ep=>
  dsimp only;generalize W90 _=r;cases r using i9<;>rfl
 |_=>rfl
theorem j30{M:YB}{Γ:Ctx}{p:T3}{a:H1}{m}{W2:u0}{v:K0}{Q:T7->T3->D1->Prop}{E:K0->T3->D1->Prop}(hn:s.nZ a m):
  Y7.wp M Γ (Jz a W2 v) Q E p s=((F3 a).AM=I0/\Q () p {s with B3:=UL a (pd W2 (db M.O5 W2) (.Z0 W2 X4) v),B4:=X4+1}):=by
 obtain⟨o,es,ep,ho,hd,hk,hm⟩:=hn;simp -w4 only[Jz,strHash,Y7.wp_bind',Y7.wp_cmd_ask,Y7.wp_pure',Y7.wp_cmd_mkText];rw[Y7.wp_loadPart_of M Γ E p {s with B4:=X4+1} (o:=o) _ ho];have hany:zA0 (·.cm)=R0:=by
  rw[M4.any_eq_false'];intro e he;obtain⟨n,t,h⟩:=hk e he;simp[YN.cm,h]
 simp only[hd,aRefKeyMayBeTheName_eq,aRefKeyMayBeTheNameByArray,hany,I1.and_false,Ps,D_,Y7.wp_cmd_updatePart];rfl
theorem Zs{M:YB}{a:H1}{m}{W2:u0}{v:K0}{Q:T7->D1->Prop}{E:K0->D1->Prop}(hn:s.nZ a m)
  (h:∀h',xm a (λ x=>if x=W2 then E0 v else m x)->WA a W0 h'->(∀o,F3 a=E0 o->∃o',D3 a=E0 o'/\YK=H4)->Q () {s with B3:=h',B4:=X4+1}):
  V0 M A (Jz a W2 v) Q E s:=by
 intro Γ p bg;have U7:=Y7.wp_nsSet M Γ (λ e _ s=>E e s) p s hn W2 v (λ _ _ s'=>Hg a (λ x=>if x=W2 then E0 v else m x)/\WA a W0 U6) (λ h' h1 h2=>⟨h1,h2⟩);rw[j30 hn]at U7 ⊢;obtain⟨k0,k1,k2⟩:=U7;refine⟨k0,h _ k1 k2 λ o e=>?_⟩;obtain⟨o',_,_,e',_⟩:=id k1;refine⟨o',e',?_⟩;have e1:=(Fr e').1;have e2:=(Fr e).1;have:(UL a (pd W2 (db M.O5 W2) (.Z0 W2 X4) v)).SC[a]?=E0 (pd W2 (db M.O5 W2) (.Z0 W2 X4) v o):=by
  generalize W0=hp at e2 ⊢;cases hp;simp only[O1.JF,gT0,sW];simp only at e2;rw[e2];rfl
 rw[J2]at e1;obtain O:=I3 e1;exact i30 ..
theorem CJ0{M:YB}{c:H1}{v₀ v:Q1 K0}{Q:T7->D1->Prop}{E:K0->D1->Prop}(hc:s.ld c v₀)
  (h:∀h',m00 c v->WA c W0 h'->(∀o,F3 c=E0 o->∃o',D3 c=E0 o'/\YK=H4)->Q () {s with B3:=h'}):V0 M A (cellSet c v) Q E s:=by
 obtain⟨o,ho,hd⟩:=hc;refine S0 (yl ho ?_);rw[hd];exact wpAny_update ho (h _ ⟨{o with M3:=.l6 v},GH _ ho O,O⟩ (qr ..) λ o₁ e₁=>⟨{o with M3:=.l6 v},GH _ ho O,by rw[ho]at e₁;obtain O:=I3 e₁;rfl⟩)
theorem lV(ES:n9 N0 L)(gd:J1 B A G s)(ER:V5 B N0 D O0 G W0){x:u0}{p:PV}{v:K0}(hn:A5 x=I0)(hl:z6 L x=I0)(r:H3 G W0 p v)
  (hF:∀b,D5 N0 L b->F b){Q:T7->D1->Prop}{E:K0->D1->Prop}
  (h:∀s',A3 B F G s G s'->J1 B A G s'->V5 B N0 (λ y=>D y/\y≠x) (A6 (vc x) p O0) G U6->Q () s'):V0 R2 A (Cm N0 x v) Q E s:=by
 obtain⟨n1,n2,n3⟩:=DL hn;have K5:∀{y w},y≠x->vc y≠0->I4 (vc y) (A6 (vc x) p O0)=E0 w->I4 (vc y) O0=E0 w:=λ{y w} hy h0 e=>by
  rw[ZD,w3 (λ q=>hy (mO q h0))]at e;exact e
 have q_:I4 (vc x) (A6 (vc x) p O0)=E0 p:=by rw[ZD,y3 O]
 obtain⟨m,hm,hr⟩:=ER.ns;have hkp:(IP==.class||(IP==.vW&&NA !=WL))=R0:=by rw[iP];rfl
 obtain⟨oL,es,ep,eL,dL,-⟩:=id hm;have qs:∀{y c},mF y=E0 c->c≠NA:=λ{y c} hc q=>by
  obtain⟨u,o,e,d⟩:=Kz y c hc;rw[q,eL]at e;obtain O:=I3 e;rw[dL]at d;contradiction
 rcases IC0 hl with q|q
 ·have kx:=pz x q;rw[z80 kx hkp];refine Zs hm λ h' JM OD dB=>?_;obtain⟨Oc,Na,Pc,e',d',-⟩:=id JM;obtain⟨tW0,GO,c₂⟩:=dB _ eL;rw[e']at GO;obtain O:=I3 GO;have Bt:∀vs n,oL≠F8 vs n:=λ vs n z=>by rw[z]at dL;contradiction
  have k:=A10;obtain⟨cg,st⟩:=gd.Xs (F:=F) (tk:=X4+1) Jf.1 Jf.2.1 Jf.2.2 (λ b o hb e=>k b o hb e)
   ⟨oL,eL,Bt,(λ vs z=>by rw[dL]at z;contradiction),Oc,e',c₂,λ vs z=>by rw[d']at z;contradiction⟩ (hF _ (.S2 O))
  ·refine h _ st cg ⟨⟨_,JM,λ y w h1 h2 h3 h4=>?_⟩,λ y w h1 h3 h4=>?_,λ y c hc=>?_,AB0,ER.dP,Jf,ym,ER.bA⟩
   ·by_cases hy:y=x
    ·subst hy;rw[q_]at h4;obtain O:=I3 h4;exact⟨v,y3 O,Fa st⟩
    ·obtain⟨u,hu,ru⟩:=hr y w h1 (λ d=>h2 ⟨d,hy⟩) h3 (K5 hy h3 h4);exact⟨u,(w3 hy).U2 hu,SK st⟩
   ·have hy:y≠x:=by rintro O;rw[kx]at h1;rcases h1 with h1|h1<;>contradiction
    obtain⟨c,u,hc,hi,ru⟩:=ER.l6 y w h1 h3 (K5 hy h3 h4);exact⟨c,u,hc,hi.de OD (qs hc),SK st⟩
   ·obtain⟨u,hi⟩:=Kz y c hc;exact⟨u,hi.de OD (qs hc)⟩
 ·have kx:=P00 x q;obtain⟨c,hc⟩:=AB0 x kx;obtain⟨u₀,hi⟩:=Kz x c hc;obtain⟨oC,eC,dC⟩:=id hi;rw[show Cm N0 x v=gy N0 x>>=λ c=>cellSet c (E0 v) by unfold Cm;rw[kx,iP];rfl];refine S0 (wpAny_cellOf hc (CJ0 hi λ h' NM OD dB=>?_));obtain⟨oC',e',d'⟩:=id NM;obtain⟨uW0,GO,c₂⟩:=dB _ eC;rw[e']at GO;obtain O:=I3 GO;have Bt:∀vs n,oC≠F8 vs n:=λ vs n z=>by rw[z]at dC;contradiction
  have k:=A10;obtain⟨cg,st⟩:=gd.Xs (F:=F) (tk:=X4) (ym x c hc).1 (ym x c hc).2.1 (ym x c hc).2.2 (λ b o hb e=>k b o hb e)
   ⟨oC,eC,Bt,(λ vs z=>by rw[dC]at z;contradiction),oC',e',c₂,λ vs z=>by rw[d']at z;contradiction⟩ (hF _ (.L2 ⟨x,q,hc⟩))
  ·refine h _ st cg ⟨⟨_,hm.de OD (H9 (qs hc)),λ y w h1 h2 h3 h4=>?_⟩,λ y w h1 h3 h4=>?_,λ y c' dB=>?_,AB0,ER.dP,Jf,ym,ER.bA⟩
   ·have hy:y≠x:=by rintro O;rw[kx]at h1;contradiction
    obtain⟨u,hu,ru⟩:=hr y w h1 (λ d=>h2 ⟨d,hy⟩) h3 (K5 hy h3 h4);exact⟨u,hu,SK st⟩
   ·by_cases hy:y=x
    ·subst hy;rw[q_]at h4;obtain O:=I3 h4;exact⟨c,v,hc,NM,Fa st⟩
    ·obtain⟨c',u,dB,Lz,ru⟩:=ER.l6 y w h1 h3 (K5 hy h3 h4);exact⟨c',u,dB,Lz.de OD (λ z=>hy (ER.dP y x c (z▸dB) hc)),SK st⟩
   ·by_cases hy:c'=c
    ·subst hy;exact⟨_,NM⟩
    ·obtain⟨u,Lz⟩:=Kz y c' dB;exact⟨u,Lz.de OD hy⟩
end
end
end
section
section
structure TS(σ:K1)(τ:C0->Ty)(c5:K1)(R3:C0->Ty):Prop where
 t:c5.t=QX
 n:c5.n=tJ
 m:E6<=c5.m
 τ:∀i,i<E6->R3 i=τ i
theorem TS.M5(σ:K1)(τ:C0->Ty):TS σ τ σ τ:=⟨O,O,B8 _,λ _ _=>O⟩
theorem TS.U2{σ₁ Kf σ₃:K1}{l30 uM m30:C0->Ty}(x:TS σ₁ l30 Kf uM)(y:TS Kf uM σ₃ m30):TS σ₁ l30 σ₃ m30:=
 ⟨y.t.U2 x.t,y.n.U2 x.n,X6 x.m y.m,λ i hi=>(y.τ i (W8 hi x.m)).U2 (x.τ i hi)⟩
def Gm{α:Type}(R:(C0->Ty)->K1->α->Prop)(m:M α)(τ:C0->Ty)(σ:K1):Prop:=
 lA τ σ->∀P X,(m σ).P1 P X->∃R3 c5 a,TS σ τ c5 R3/\lA R3 c5/\R R3 c5 a/\P a c5
section
variable{α β:Type}{R:(Nat->Ty)->K1->α->Prop}{R':(Nat->Ty)->K1->β->Prop}{τ:Nat->Ty}{σ:K1}
theorem r8{a:α}(r:R τ σ a):Gm R (W1 a) τ σ:=λ ok P X h=>⟨τ,σ,a,.M5 ..,ok,r,h⟩
theorem ZA{w:C0}:Gm R (F2 w) τ σ:=λ ok P X h=>u4
theorem af{m:M α}{f:α->M β}(h:Gm R m τ σ)(k:∀R3 c5 a,TS σ τ c5 R3->lA R3 c5->R R3 c5 a->Gm R' (f a) R3 c5):Gm R' (F1 m f) τ σ:=λ ok P X M0=>by
 obtain⟨R3,c5,a,ts,j8,r,hp⟩:=h ok _ _ (j6 M0);obtain⟨DJ0,EJ0,b,iH,FJ0,r',Ct⟩:=k R3 c5 a ts j8 r j8 P X hp;exact⟨DJ0,EJ0,b,ts.U2 iH,FJ0,r',Ct⟩
theorem Gm.E5{m:M α}{n30:(C0->Ty)->K1->α->Prop}(h:Gm R m τ σ)(k:∀R3 c5 a,TS σ τ c5 R3->lA R3 c5->R R3 c5 a->n30 R3 c5 a):Gm n30 m τ σ:=λ ok P X M0=>by
 obtain⟨R3,c5,a,ts,j8,r,hp⟩:=h ok P X M0;exact⟨R3,c5,a,ts,j8,k _ _ _ ts j8 r,hp⟩
theorem fU{w:C0}{b:I1}{m:M α}(h:b=I0->Gm R m τ σ):Gm R (pA w b m) τ σ:=by
 cases b using o7 with
 |I0=>exact h O
 |R0=>exact ZA
theorem Y_{m m':M α}(e:m σ=m' σ)(h:Gm R m' τ σ):Gm R m τ σ:=λ ok P X M0=>h ok P X (e▸M0)
end
theorem uJ{τ:C0->Ty}{σ:K1}(ok:lA τ σ){i:C0}(hi:i<E6):I7 i<E6/\τ (I7 i)=τ i:=by
 unfold K1.der;generalize 6=n;induction n generalizing i with
 |K9=>exact⟨hi,O⟩
 |J9 n ih=>
  have h:=nN i hi;show(match X8 i with|.al j=>_|_=>i)<E6/\τ (match X8 i with|.al j=>_|_=>i)=τ i;cases e:X8 i with
  |al j=>
   rw[e]at h;obtain⟨h1,h2⟩:=h;have:=ih h1;exact⟨J2.1,J2.2.U2 Q00⟩
  |_=>exact⟨hi,O⟩
theorem GJ0(σ:K1)(i:C0)(x:TI)(j:C0):(uN i x).ti j=if j=i then x else X8 j:=by
 show K1.Lp ((ay (.ti x) i).o9 j)=_;rw[MH];split<;>rfl
theorem HJ0(σ:K1)(x:TI)(j:C0):(mU x).ti j=if j=E6 then x else X8 j:=by
 show K1.Lp ((ay (.ti x) E6).o9 j)=_;rw[MH];split<;>rfl
theorem ZQ.E5{τ R3:C0->Ty}{m m':C0}(hm:m<=m')(uC:∀i,i<m->R3 i=τ i){i:C0}(hi:i<m){x:TI}(h:ZQ τ m i x):ZQ R3 m' i x:=by
 cases x using zf with
 |RC k d=>unfold ZQ at h ⊢;rw[uC i hi];exact h
 |al j=>obtain⟨h1,h2⟩:=h;exact⟨W8 h1 hm,by rw[uC i hi,uC j h1];exact h2⟩
 |mA k=>unfold ZQ at h ⊢;rw[uC i hi];exact h
 |Y8 j=>obtain⟨h1,h2⟩:=h;exact⟨W8 h1 hm,by rw[uC i hi,uC j h1];exact h2⟩
 |Z8 j=>obtain⟨h1,h2⟩:=h;exact⟨W8 h1 hm,by rw[uC i hi,uC j h1];exact h2⟩
theorem lA.bJ{τ:C0->Ty}{σ:K1}(ok:lA τ σ){i:C0}{x:TI}(h:ZQ τ E6 i x):lA τ (uN i x):=
 ⟨IX,λ j hj=>by
  rw[GJ0];by_cases e:j=i
  ·subst e;rw[y3 O];exact h
  ·rw[w3 e];exact nN j hj,zm⟩
theorem TS.bJ(σ:K1)(τ:C0->Ty)(i:C0)(x:TI):TS σ τ (uN i x) τ:=⟨O,O,B8 _,λ _ _=>O⟩
theorem lA.Mp{τ R3:C0->Ty}{σ:K1}(ok:lA τ σ){x:TI}(uC:∀i,i<E6->R3 i=τ i)(hd:(R3 E6).iI<=2)(h:ZQ R3 (E6+1) E6 x):lA R3 (mU x):=by
 have lt:∀{i},i<(mU x).m->i<E6\/i=E6:=λ hi=>ch hi;refine⟨λ i hi=>?_,λ i hi=>?_,λ p hp=>?_⟩
 ·rcases lt hi with hi|O
  ·rw[uC i hi];exact IX i hi
  ·exact hd
 ·rw[HJ0];rcases lt hi with hi|O
  ·rw[w3 (ZC hi)];exact(nN i hi).E5 (UN _) uC hi
  ·rw[y3 O];exact h
 ·obtain⟨h1,h2,h3⟩:=zm p hp;exact⟨xT h1,xT h2,by rw[uC _ h1,uC _ h2];exact h3⟩
theorem TS.Mp{σ:K1}{τ R3:C0->Ty}{x:TI}(uC:∀i,i<E6->R3 i=τ i):TS σ τ (mU x) R3:=⟨O,O,UN _,uC⟩
theorem lA.xX{τ:C0->Ty}{σ:K1}(ok:lA τ σ){i j:C0}(hi:i<E6)(hj:j<E6)(h:τ i≠τ j):lA τ (wy i j):=
 ⟨IX,nN,λ p hp=>by
  rcases kA hp with O|hp
  ·exact⟨hi,hj,h⟩
  ·exact zm p hp⟩
theorem TS.xX(σ:K1)(τ:C0->Ty)(i j:C0):TS σ τ (wy i j) τ:=⟨O,O,B8 _,λ _ _=>O⟩
theorem yS(t:Ty):t_<5:=by
 cases t using SG<;>exact u6 (m:=5) O
theorem IJ0:∀(m:jH 32)(k j:jH 5),qC m.1 k.1=I0->j.1≠k.1->qC m.1 j.1=I0->(QH m.1 (RK 2 k.1)<32/\qC (QH m.1 (RK 2 k.1)) j.1=I0):=by decide +F7
theorem JJ0(m)(hm:m<32)(k)(hk:k<5)(j)(hj:j<5):qC m k=I0->j≠k->qC m j=I0->(QH m (RK 2 k)<32/\qC (QH m (RK 2 k)) j=I0):=IJ0 ⟨m,hm⟩ ⟨k,hk⟩ ⟨j,hj⟩
theorem KJ0:∀k,k<5->∀j,j<5->qC (RK 2 k) j=I0->j=k:=by decide +F7
theorem LJ0:∀(m n:jH 32)(j:jH 5),qC m.1 j.1=I0->qC n.1 j.1=I0->VP m.1 n.1<32/\Y1 (VP m.1 n.1) 0=R0/\qC (VP m.1 n.1) j.1=I0:=by decide +F7
theorem o30(m)(hm:m<32)(n)(hn:n<32)(j)(hj:j<5)(h1:qC m j=I0)(h2:qC n j=I0):VP m n<32/\Y1 (VP m n) 0=R0/\qC (VP m n) j=I0:=LJ0 ⟨m,hm⟩ ⟨n,hn⟩ ⟨j,hj⟩ h1 h2
theorem MJ0(t:Ty)(d:C0)(h:DS<=d):zL d<32/\qC (zL d) t_=I0:=by
 unfold zL;cases hd:Y1 d 0 with
 |I0=>
  have:d=0:=M6 hd;subst J2;cases t using SG with
  |Y8 t=>exact U3 h (ii _)
  |Z8 t=>exact U3 h (ii _)
  |_=>decide
 |R0=>cases t using SG<;>exact⟨by decide,by first|decide|(show qC _ 3=I0;decide)|(show qC _ 4=I0;decide)⟩
def Ty.ki:Ty->Ty
 |.Y8 t=>t
 |.Z8 t=>t
 |t=>t
theorem mV{s t:Ty}(h:mn<3)(e:mn=t_):s=t:=by
 cases s using SG<;>cases t using SG<;>first|rfl|exact U3 e (tA O)|exact U3 h (lb (u6 O))
theorem p30{τ:C0->Ty}{σ:K1}(ok:lA τ σ){i k m d:C0}(hi:i<E6)(hk:(τ i).hd=k)(xW0:(τ i).iI<=d){P:T7->K1->Prop}{X}(h:(I_ i k d σ).P1 P X):
  ∃R3 c5,TS σ τ c5 R3/\lA R3 c5/\P () c5:=by
 unfold I_ at h;cases hb:Y6 k 3 with
 |I0=>
  rw[hb]at h;have bQ:k<3:=Pl hb;exact⟨τ,_,.bJ ..,ok.bJ (i:=i) (x:=.mA k) ⟨bQ,hk⟩,h⟩
 |R0=>
  rw[hb]at h;have bQ:¬k<3:=λ q=>by rw[IH.C8 q]at hb;contradiction
  let R3:C0->Ty:=λ x=>if x=E6 then(τ i).ki else τ x
  have uC:∀j,j<E6->R3 j=τ j:=λ j hj=>w3 (ZC hj);have hn:R3 E6=(τ i).ki:=y3 O;have Oa:(τ i).ki.iI+1=(τ i).iI:=by
   revert bQ;rw[<-hk];cases τ i<;>first|exact λ _=>O|exact λ q=>U3 (u6 O) q
  have Dt:lA R3 (mU (.RC (zL (H_ d)) (H_ d))):=ok.Mp uC (by rw[hn];have:=IX i hi;exact ω48 ‹_› ‹_›) (by
   unfold ZQ;rw[hn];have:(τ i).ki.iI<=H_ d:=by show _<=d-1;exact ω44 ‹_› ‹_›
   have b:=MJ0 _ _ J2;exact⟨b.1,b.2,J2⟩)
  refine⟨R3,_,(TS.Mp uC).U2 (.bJ ..),Dt.bJ (i:=i) ?_,h⟩;have h5:=yS (τ i);have NM:i<E6+1:=xT hi;unfold mkT;cases hk4:Y1 k 3 with
  |I0=>
   have:k=3:=M6 hk4;refine⟨TD _,?_⟩;rw[uC i hi,hn];revert hk;subst J2;cases τ i<;>first|exact λ _=>O|exact λ q=>U3 q (tA O)
  |R0=>
   have:k≠3:=tA hk4;have:k=4:=by exact ω34 ‹_› ‹_› ‹_› ‹_›
   refine⟨TD _,?_⟩;rw[uC i hi,hn];revert hk;subst J2;cases τ i<;>first|exact λ _=>O|exact λ q=>U3 q (tA O)
theorem NJ0{τ:C0->Ty}{σ:K1}(ok:lA τ σ){i k:C0}(h:vy i k=I0):(τ i).hd≠k:=by
 unfold K1.qB0 at h;have Z6:=zm;revert h Z6;generalize pP=l;intro h Z6;induction l with
 |B0=>contradiction
 |A0 p l ih=>
  have hp:=Z6 p (aE ..);have J4:=λ h=>ih h λ q hq=>Z6 q (AC _ hq);have U7:∀a b,a<E6->b<E6->τ a≠τ b->Y1 (I7 a) i=I0->An k (X8 (I7 b))=I0->(τ i).hd≠k:=λ a b ha hb hn h1 h2 e=>by
   have e1:I7 a=i:=M6 h1;have d1:=uJ ok ha;have d2:=uJ ok hb;have i2:=nN _ d2.1;generalize hx:X8 (I7 b)=zo at h2;cases zo using zf with
   |mA j=>
    rw[hx]at i2;have hj:j=k:=M6 h2;obtain⟨k1,k2⟩:=i2;subst hj;have q1:τ i=τ a:=e1▸d1.2;exact hn (by rw[<-q1,<-d2.2];exact mV (by exact ω101 ‹_› ‹_› ‹_›) (by exact Eq.U2 ‹_› (OB0 ‹_›)))
   |_=>contradiction
  change(bif Y1 (I7 p.1) i then(bif An k (X8 (I7 p.2))then I0 else _)else bif Y1 (I7 p.2) i then(bif An k (X8 (I7 p.1))then I0 else _)else _)=I0 at h;cases h1:Y1 (I7 p.1) i with
  |I0=>
   rw[h1,A_]at h;cases h2:An k (X8 (I7 p.2))with
   |I0=>exact U7 _ _ hp.1 hp.2.1 hp.2.2 h1 h2
   |R0=>rw[h2,NH]at h;exact J4 h
  |R0=>
   rw[h1,NH]at h;cases h3:Y1 (I7 p.2) i with
   |I0=>
    rw[h3,A_]at h;cases h2:An k (X8 (I7 p.1))with
    |I0=>exact U7 _ _ hp.2.1 hp.1 (λ q=>hp.2.2 ZK) h3 h2
    |R0=>rw[h2,NH]at h;exact J4 h
   |R0=>rw[h3,NH]at h;exact J4 h
theorem q30{i j a b:C0}(h:Mz i j a b=I0):(a=i/\b=j)\/(a=j/\b=i):=by
 symm;unfold Mz at h;cases h1:Y1 a i with
 |I0=>
  ext;rw[h1]at h;exact .S2 ⟨M6 h1,M6 h⟩
 |R0=>
  rw[h1,NH]at h;cases h2:Y1 a j with
  |I0=>
   ext;rw[h2]at h;exact .L2 ⟨M6 h2,M6 h⟩
  |R0=>
   ext;rw[h2]at h;contradiction
theorem OJ0{a b:TI}{q:C0×C0}(h:K1.uy a b=E0 q):(a=.Y8 q.1/\b=.Y8 q.2)\/(a=.Z8 q.1/\b=.Z8 q.2):=by
 cases a using zf with
 |Y8 i=>
  cases b using zf with
  |Y8 j=>obtain O:=I3 h;exact .S2 ⟨O,O⟩
  |_=>contradiction
 |Z8 i=>
  cases b using zf with
  |Z8 j=>obtain O:=I3 h;exact .L2 ⟨O,O⟩
  |_=>contradiction
 |_=>contradiction
theorem PJ0{τ:C0->Ty}{σ:K1}(ok:lA τ σ){i j:C0}(h:UA0 i j=I0):τ i≠τ j:=by
 unfold K1.isNe at h;have Z6:=zm;revert h Z6;generalize pP=l;intro h Z6;induction l with
 |B0=>contradiction
 |A0 p l ih=>
  have hp:=Z6 p (aE ..);change(bif σ.pB0 i j p then I0 else _)=I0 at h;cases h1:σ.pB0 i j p with
  |R0=>rw[h1,NH]at h;exact ih h λ q hq=>Z6 q (AC _ hq)
  |I0=>
   unfold K1.pB0 at h1;cases h2:Mz i j p.1 p.2 with
   |I0=>
    rcases q30 h2 with⟨e1,e2⟩|⟨e1,e2⟩
    ·rw[<-e1,<-e2];exact hp.2.2
    ·rw[<-e1,<-e2];exact λ q=>hp.2.2 ZK
   |R0=>
    rw[h2,NH]at h1;cases h3:K1.uy (X8 (I7 p.1)) (X8 (I7 p.2))with
    |H0=>rw[h3]at h1;contradiction
    |E0 q=>
     rw[h3]at h1;change Mz i j (I7 q.1) (I7 q.2)=I0 at h1;have d1:=uJ ok hp.1;have d2:=uJ ok hp.2.1;have i1:=nN _ d1.1;have i2:=nN _ d2.1;have:q.1<E6/\q.2<E6/\τ q.1≠τ q.2:=by
      rcases OJ0 h3 with⟨ea,eb⟩|⟨ea,eb⟩
      ·rw[ea]at i1;rw[eb]at i2;exact⟨i1.1,i2.1,λ z=>hp.2.2 (by rw[<-d1.2,<-d2.2,i1.2,i2.2];exact H6 BB0 z)⟩
      ·rw[ea]at i1;rw[eb]at i2;exact⟨i1.1,i2.1,λ z=>hp.2.2 (by rw[<-d1.2,<-d2.2,i1.2,i2.2];exact H6 CB0 z)⟩
     have q1:=uJ ok J2.1;have q2:=uJ ok J2.2.1;rcases q30 h1 with⟨e1,e2⟩|⟨e1,e2⟩
     ·rw[<-e1,<-e2,q1.2,q2.2];exact J2.2.2
     ·rw[<-e1,<-e2,q1.2,q2.2];exact λ q=>J2.2.2 ZK
theorem r30{τ:C0->Ty}{σ:K1}{i k m d:C0}(hi:i<E6)(hk:k<5)(h1:m<32)(h2:qC m (τ i).hd=I0)(h3:(τ i).iI<=d):
  Gm (λ R3 c5 t=>t=Y1 (τ i).hd k) (BY i k m d) τ σ:=by
 intro ok P X M0;unfold BY at M0;have jo:qC m k=I0->(τ i).hd≠k->lA τ (uN i (.RC (QH m (RK 2 k)) d)):=λ hb hn=>by
  have:=JJ0 m h1 k hk _ (yS (τ i)) hb hn h2;exact ok.bJ ⟨J2.1,J2.2,h3⟩
 have Et:∀{x y:C0},x≠y->R0=Y1 x y:=λ h=>by
  rename_i x y;cases e:Y1 x y with
  |I0=>exact U3 (M6 e) h
  |R0=>rfl
 have tru:(τ i).hd=k->I0=Y1 (τ i).hd k:=λ h=>by rw[h,oZ]
 cases hb:qC m k with
 |R0=>
  rw[hb]at M0;exact⟨τ,σ,R0,.M5 ..,ok,Et (λ e=>by rw[e,hb]at h2;contradiction),M0⟩
 |I0=>
  rw[hb]at M0;change((bif vy i k then(λ σ=>H7.B9 R0 (uN i (.RC (QH m (RK 2 k)) d)):M I1)else bif Y1 m (RK 2 k)then F1 (I_ i k d) (λ _=>W1 I0)
   else λ σ=> .YG 2 (λ x=>bif Y1 x 0 then F1 (I_ i k d) (λ _=>W1 I0) σ else .B9 R0 (uN i (.RC (QH m (RK 2 k)) d)))) σ).P1 P X at M0
  cases hc:vy i k with
  |I0=>
   rw[hc]at M0;have hn:=NJ0 ok hc;exact⟨τ,_,R0,.bJ ..,jo hb hn,Et hn,M0⟩
  |R0=>
   rw[hc]at M0;cases hm:Y1 m (RK 2 k)with
   |I0=>
    rw[hm]at M0;have:(τ i).hd=k:=KJ0 k hk _ (yS _) (by rw[<-M6 hm];exact h2);obtain⟨R3,c5,ts,j8,p⟩:=p30 (m:=m) ok hi J2 h3 (j6 M0);exact⟨R3,c5,I0,ts,j8,tru J2,p⟩
   |R0=>
    rw[hm]at M0;by_cases e:(τ i).hd=k
    ·have:=M0 0 (by decide);obtain⟨R3,c5,ts,j8,p⟩:=p30 (m:=m) ok hi e h3 (j6 J2);exact⟨R3,c5,I0,ts,j8,tru e,p⟩
    ·have:=M0 1 (by decide);exact⟨τ,_,R0,.bJ ..,jo hb e,Et e,J2⟩
theorem DT{x y:C0}(h:x≠y):Y1 x y=R0:=by
 cases e:Y1 x y with
 |I0=>exact U3 (M6 e) h
 |R0=>rfl
theorem Ft{τ:C0->Ty}{σ:K1}{i k:C0}(hi:i<E6)(hk:k<5):
  Gm (λ R3 c5 t=>t=Y1 (τ i).hd k) (ja i k (X8 i)) τ σ:=by
 intro ok;have X9:=nN i hi;revert ok;cases hx:X8 i with
 |mA j=>rw[hx]at X9;exact r8 (by rw[X9.2])
 |Y8 j=>rw[hx]at X9;exact r8 (by rw[X9.2];rfl)
 |Z8 j=>rw[hx]at X9;exact r8 (by rw[X9.2];rfl)
 |al j=>exact ZA
 |RC m d=>
  rw[hx]at X9;obtain⟨i1,i2,i3⟩:=X9;show Gm _ (bif Y1 d 0 then(bif Y6 k 3 then BY i k m d else W1 R0)else BY i k m d) τ σ;cases hd:Y1 d 0 with
  |R0=>exact r30 hi hk i1 i2 i3
  |I0=>
   cases hb:Y6 k 3 with
   |I0=>exact r30 hi hk i1 i2 i3
   |R0=>
    have bQ:¬k<3:=λ q=>by rw[IH.C8 q]at hb;contradiction
    have:d=0:=M6 hd;subst J2;refine r8 (OB0 (DT λ e=>bQ ?_));rw[<-e];revert i3;cases τ i<;>first|exact λ _=>u6 (m:=3) O|exact λ q=>U3 q (ii _)
def uA(n:C0):u0:=open Classical in if h:∃s:u0,vc s=n then HA0 else ""
theorem Ht{s:u0}(h:vc s≠0):uA (vc s)=s:=by
 have hx:∃s':u0,vc s'=vc s:=⟨s,O⟩;unfold uA;rw[dif_pos hx];exact(mO hx.choose_spec.Z3 h).Z3
def xG(n:C0):Prop:=n≠0/\∃s:u0,vc s=n
theorem QJ0{n m:C0}(hn:xG n)(hm:xG m)(h:uA n=uA m):n=m:=by
 obtain⟨n0,s,O⟩:=hn;obtain⟨m0,t,O⟩:=hm;rw[Ht n0,Ht m0]at h;rw[h]
theorem Qc{n m:C0}(hn:xG n)(hm:xG m):(uA n==uA m)=Y1 n m:=by
 cases e:Y1 n m with
 |I0=>rw[M6 e];simp
 |R0=>
  have:n≠m:=tA e;simpa using λ q=>J2 (QJ0 hn hm q)
theorem ET{s:u0}{n:C0}(h:(Y1 (vc s) n&&!Y1 n 0)=I0):xG n:=by
 simp only[N5,FP]at h;exact⟨tA h.2,s,M6 h.1⟩
theorem s30:xG zX:=ET (s:="int") (by decide +F7)
theorem t30:xG AV:=ET (s:="bool") (by decide +F7)
theorem u30:xG AY:=ET (s:="param") (by decide +F7)
theorem w30:xG BV:=ET (s:="box") (by decide +F7)
theorem x30:xG CV:=ET (s:="adt") (by decide +F7)
theorem RJ0:xG yg:=ET (s:="u8") (by decide +F7)
theorem SJ0:xG nX:=ET (s:="X") (by decide +F7)
theorem code_S:xG nS:=ET (s:="S") (by decide +F7)
def nO(T W K:C0->VA)(p:PV):VA×P0 VA:=
 @X_ (λ _=>VA×P0 VA) (.H0,[]) (λ b=>(.O3 b,[])) (λ i=>(.j0 i,[])) (λ n=>(.Z0 (uA n),[])) (λ _=>(.H0,[]))
  (.H0,[]) (λ _ _ a r=>(.H0,a.1::r.2)) (λ _ _ _ _ _=>(.H0,[])) (λ _ l=>(.KD l.2,[])) (λ _=>(.H0,[])) (λ _=>(.H0,[]))
  (λ i=>(T i,[])) (λ i=>(W i,[])) (λ i=>(K i,[])) p
def bY(_:C0):VA:=.H0
def cY(p:PV):VA:=(nO bY bY bY p).1
def dT(τ:C0->Ty)(i:C0):VA:=cY (τ i).p
def dW(τ:C0->Ty)(i:C0):VA:=cY (τ i).w
def dK(τ:C0->Ty)(i:C0):VA:=.Z0 (uA (ID (τ i).hd))
def HG(τ:C0->Ty)(p:PV):VA:=(nO (dT τ) (dW τ) (dK τ) p).1
def Q9(τ:C0->Ty)(p:PV):P0 VA:=(nO (dT τ) (dW τ) (dK τ) p).2
theorem y30{τ a r}:Q9 τ (.A0 a r)=HG τ a::Q9 τ r:=O
theorem z30{τ l}:HG τ (.Q0 l)=.KD (Q9 τ l):=O
def Vd(m:C0):PV->Prop
 |.H0=>rP|.O3 _=>rP|.j0 _=>rP
 |.Z0 n=>xG n
 |.B0=>rP
 |.A0 a r=>Vd m a/\Vd m r
 |.Q0 l=>Vd m l
 |.ty i=>i<m|.wr i=>i<m|.pC i=>i<m
 |_=>J6
theorem Vd.E5{m m':C0}(h:m<=m'):∀{p:PV},Vd m p->Vd m' p:=by
 intro p;induction p with
 |A0 a r MG RA=>exact λ x=>⟨MG x.1,RA x.2⟩
 |Q0 l ih=>exact ih
 |ty i|wr i|pC i=>exact λ x=>W8 x h
 |_=>exact λ x=>x
theorem kF{σ c5:K1}{τ R3:C0->Ty}(ts:TS σ τ c5 R3):∀{p:PV},Vd E6 p->HG R3 p=HG τ p/\Q9 R3 p=Q9 τ p:=by
 intro p;induction p with
 |A0 a r MG RA=>exact λ x=>⟨O,by rw[y30,y30,(MG x.1).1,(RA x.2).2]⟩
 |Q0 l ih=>exact λ x=>⟨by rw[z30,z30,(ih x).2],O⟩
 |ty i=>exact λ x=>⟨H6 (λ t=>cY (Ty.p t)) (yF i x),O⟩
 |wr i=>exact λ x=>⟨H6 (λ t=>cY (Ty.w t)) (yF i x),O⟩
 |pC i=>exact λ x=>⟨H6 (λ t=>VA.Z0 (uA (ID (Ty.hd t)))) (yF i x),O⟩
 |_=>exact λ _=>⟨O,O⟩
def W7(t:Ty):VA:=cY XF
theorem A40{P:C0->Prop}(k:C0)(h0:P zX)(h1:P AV)(h2:P AY)(h3:P BV)(h4:P CV):P (ID k):=
 @C0.n8 (λ k=>P (ID k)) k h0 λ k=>@C0.n8 (λ k=>P (ID (k+1))) k h1 λ k=>@C0.n8 (λ k=>P (ID (k+2))) k h2 λ k=>@C0.n8 (λ k=>P (ID (k+3))) k h3 λ _=>h4
theorem Rc(k:C0):xG (ID k):=A40 (P:=xG) k s30 t30 u30 w30 x30
def Jt:Ty->P0 VA
 |.u8=>[.Z0 (uA yg)]|.yE=>[]|.X=>[.Z0 (uA nX)]
 |.Y8 t=>[W7 t]
 |.Z8 t=>[.Z0 (uA nS),.KD [],.KD [W7 t]]
theorem vI(t:Ty):W7 t=.KD (.Z0 (uA (ID t_))::Jt t):=by cases t using SG<;>rfl
theorem vM{a b:u0}:w6 (.Z0 a) (.Z0 b)=(a==b):=by simp[w6]
theorem cQ{a b:P0 VA}:w6 (.KD a) (.KD b)=YC a b:=by simp[w6]
theorem yH{x y:VA}{a b:P0 VA}:YC (x::a) (y::b)=(w6 x y&&YC a b):=by simp[YC]
theorem Tc:YC [] []=I0:=by simp[YC]
theorem B40:∀i,i<5->∀j,j<5->(Y1 (ID i) (ID j)=Y1 i j):=by
 have:∀i j:jH 5,Y1 (ID i.1) (ID j.1)=Y1 i.1 j.1:=by decide +F7
 exact λ i hi j hj=>J2 ⟨i,hi⟩ ⟨j,hj⟩
theorem qi{s t:Ty}:(uA (ID mn)==uA (ID t_))=Y1 mn t_:=by
 rw[Qc (Rc _) (Rc _),B40 _ (yS s) _ (yS t)]
theorem Uc{s t:Ty}(h:Y1 mn t_=R0):R0=w6 (W7 s) (W7 t):=by
 rw[vI,vI t,cQ,yH,vM,qi,h];rfl
theorem C40{b:I1}{s t:Ty}(h:b=w6 (W7 s) (W7 t)):b=w6 (W7 (.Y8 s)) (W7 (.Y8 t)):=by
 rw[vI,vI (.Y8 t),cQ,yH,vM,qi];show b=(I0&&YC [W7 s] [W7 t]);rw[yH,Tc,<-h,cw,Tl]
theorem D40{b:I1}{s t:Ty}(h:b=w6 (W7 s) (W7 t)):b=w6 (W7 (.Z8 s)) (W7 (.Z8 t)):=by
 rw[vI,vI (.Z8 t),cQ,yH,vM,qi];show b=(I0&&YC [.Z0 (uA nS),.KD [],.KD [W7 s]] [.Z0 (uA nS),.KD [],.KD [W7 t]]);rw[yH,yH,yH,Tc,cQ,cQ,yH,Tc,<-h,vM,MW,cw,Tl,Tl,cw,cw]
theorem Nt{s:Ty}(h:YC (Jt s) (Jt s)=I0):I0=w6 (W7 s) (W7 s):=by
 rw[vI,cQ,yH,vM,MW,h];rfl
theorem E40{a:u0}:YC [.Z0 a] [.Z0 a]=I0:=by
 rw[yH,Tc,vM,MW];rfl
theorem F40(t:Ty):I0=w6 (W7 t) (W7 t):=
 @Ty.NR (λ t=>I0=w6 (W7 t) (W7 t)) (Nt E40) (Nt Tc) (Nt E40) (λ _=>C40) (λ _=>D40) t
theorem Ot{s t:Ty}(h:s≠t):R0=w6 (W7 s) (W7 t):=by
 induction s generalizing t with
 |u8=>cases t using SG with
  |u8=>exact U3 O h
  |_=>exact Uc O
 |yE=>cases t using SG with
  |yE=>exact U3 O h
  |_=>exact Uc O
 |X=>cases t using SG with
  |X=>exact U3 O h
  |_=>exact Uc O
 |Y8 s ih=>cases t using SG with
  |Y8 t=>exact C40 (ih λ e=>h (H6 BB0 e))
  |_=>exact Uc O
 |Z8 s ih=>cases t using SG with
  |Z8 t=>exact D40 (ih λ e=>h (H6 CB0 e))
  |_=>exact Uc O
mutual
theorem yi:∀a b:PyData,PyData.eqv a b=PyData.eqv b a
 |.tuple xs,.tuple ys=>by rw[PyData.eqv,PyData.eqv];exact Qt xs ys
 |.list xs,.list ys=>by rw[PyData.eqv,PyData.eqv];exact Qt xs ys
 |.bool a,.bool b=>by simp[PyData.eqv,Bool.beq_comm]
 |.int a,.int b=>by simp only[PyData.eqv];exact BEq.comm
 |.str a,.str b=>by simp only[PyData.eqv];exact BEq.comm
 |.bool a,.int b=>by simp only[PyData.eqv];exact BEq.comm
 |.int a,.bool b=>by simp only[PyData.eqv];exact BEq.comm
 |.none,b=>by cases b<;>simp[PyData.eqv]
 |.dict _,b=>by cases b<;>simp[PyData.eqv]
 |.bool _,.none|.bool _,.str _|.bool _,.list _|.bool _,.tuple _|.bool _,.dict _=>by simp[PyData.eqv]
 |.int _,.none|.int _,.str _|.int _,.list _|.int _,.tuple _|.int _,.dict _=>by simp[PyData.eqv]
 |.str _,.none|.str _,.bool _|.str _,.int _|.str _,.list _|.str _,.tuple _|.str _,.dict _=>by simp[PyData.eqv]
 |.list _,.none|.list _,.bool _|.list _,.int _|.list _,.str _|.list _,.tuple _|.list _,.dict _=>by simp[PyData.eqv]
 |.tuple _,.none|.tuple _,.bool _|.tuple _,.int _|.tuple _,.str _|.tuple _,.list _|.tuple _,.dict _=>by simp[PyData.eqv]
theorem Qt:∀xs ys:List PyData,PyData.eqvAll xs ys=PyData.eqvAll ys xs
 |[],[]=>rfl
 |x::xs,y::ys=>by rw[yH,yH,yi x y,Qt xs ys]
 |[],_::_=>by simp[PyData.eqvAll]
 |_::_,[]=>by simp[PyData.eqvAll]
end
def TJ0(a b:PV):(C0->Ty)->K1->I1->Prop:=λ τ _ t=>t=w6 (HG τ a) (HG τ b)
def Aj(a b:PV):(C0->Ty)->K1->I1->Prop:=λ τ _ t=>t=YC (Q9 τ a) (Q9 τ b)
def dY(ih:PV->PV->M I1):Prop:=∀a b τ σ,Vd E6 a->Vd E6 b->Gm (TJ0 a b) (ih a b) τ σ
theorem UJ0{h:C0}:match Xn h with|E0 k=>k<5/\h=ID k|H0=>∀k,h≠ID k:=by
 unfold Xn;cases h3:Y1 h BV with
 |I0=>exact⟨by decide,M6 h3⟩
 |R0=>
  cases h4:Y1 h CV with
  |I0=>exact⟨by decide,M6 h4⟩
  |R0=>
   cases h0:Y1 h zX with
   |I0=>exact⟨by decide,M6 h0⟩
   |R0=>
    cases h2:Y1 h AY with
    |I0=>exact⟨by decide,M6 h2⟩
    |R0=>
     cases h1:Y1 h AV with
     |I0=>exact⟨by decide,M6 h1⟩
     |R0=>
      intro k;exact A40 (P:=λ x=>h≠x) k (tA h0) (tA h1) (tA h2) (tA h3) (tA h4)
theorem Rt{τ:C0->Ty}{σ:K1}{i h:C0}(hi:i<E6):Gm (λ _ _ t=>t=Y1 (ID (τ i).hd) h) (qa i h) τ σ:=by
 intro ok P X M0;symm;have hx:=@UJ0 h;unfold qa at M0;cases e:Xn h with
 |H0=>
  rw[e]at hx M0;ext;exact⟨τ,σ,R0,.M5 ..,ok,(DT λ q=>hx _ ZK).Z3,M0⟩
 |E0 k=>
  rw[e]at hx M0;have d:=uJ ok hi;obtain⟨R3,c5,t,ts,j8,r,p⟩:=Ft d.1 hx.1 ok P X M0;ext;refine⟨R3,c5,t,ts,j8,?_,p⟩;rw[r,d.2,hx.2,B40 _ (yS _) _ hx.1]
theorem Tt{τ:C0->Ty}{σ:K1}(ok:lA τ σ){i:C0}(hi:i<E6){c:PV}(h:vN (X8 i)=E0 c):Vd E6 c/\W7 (τ i)=.KD (Q9 τ c):=by
 have X9:=nN i hi;cases hx:X8 i with
 |RC=>rw[hx]at h;contradiction
 |al=>rw[hx]at h;contradiction
 |mA k=>
  rw[hx]at h X9;obtain O:=I3 h;obtain⟨h1,h2⟩:=X9;have:k=0\/k=1\/k=2:=by exact ω9 _ ‹_›
  rcases J2 with O|O|O
  ·have:τ i=.u8:=mV (by exact Ka ‹_› O) h2;rw[J2];exact⟨⟨s30,RJ0,FE⟩,O⟩
  ·have:τ i=.yE:=mV (by exact Ka ‹_› O) h2;rw[J2];exact⟨⟨t30,FE⟩,O⟩
  ·have:τ i=.X:=mV (by exact Ka ‹_› O) h2;rw[J2];exact⟨⟨u30,SJ0,FE⟩,O⟩
 |Y8 j=>
  rw[hx]at h X9;obtain O:=I3 h;rw[X9.2];exact⟨⟨w30,X9.1,FE⟩,O⟩
 |Z8 j=>
  rw[hx]at h X9;obtain O:=I3 h;rw[X9.2];exact⟨⟨x30,code_S,FE,⟨X9.1,FE⟩,FE⟩,O⟩
section
variable{ih:PV->PV->M Bool}(H:dY ih)
include H
theorem Ut:∀(l b:PV)(τ:C0->Ty)(σ:K1),Vd E6 l->Vd E6 b->Gm (Aj l b) (Ah ih l b) τ σ:=by
 intro l;induction l with
 |A0 a r _ RA=>
  intro b τ σ hl hb;cases b using Q3 with
  |B0=>exact r8 (show R0=YC (HG τ a::Q9 τ r) [] by simp[YC])
  |A0 b s=>
   refine af (H a b τ σ hl.1 hb.1) λ R3 c5 t ts j8 e=>?_;have d1:=kF ts hl;have d2:=kF ts hb;cases t using o7 with
   |R0=>exact r8 (show R0=YC (HG R3 a::Q9 R3 r) (HG R3 b::Q9 R3 s) by rw[yH,<-e];rfl)
   |I0=>
    refine(RA s R3 c5 (hl.2.E5 fK) (hb.2.E5 fK)).E5 λ uM Kf t dQ G40 GO=>?_;show t=YC (HG uM a::Q9 uM r) (HG uM b::Q9 uM s);rw[yH,(kF dQ (hl.1.E5 fK)).1,(kF dQ (hb.1.E5 fK)).1,<-e,GO];rfl
  |_=>exact ZA
 |_=>
  intro b τ σ hl hb;first
   |exact ZA
   |(cases b using Q3 with
    |B0=>exact r8 (show I0=YC [] [] by simp[YC])
    |A0 b s=>exact r8 (show R0=YC [] (HG τ b::Q9 τ s) by simp[YC])
    |_=>exact ZA)
   |exact hl.KB
   |(cases b with
    |B0=>exact(r8 (R:=Aj _ _) (show I0=YC [] [] by simp[YC]))
    |A0 b s=>exact(r8 (R:=Aj _ _) (show R0=YC [] (HG τ b::Q9 τ s) by simp[YC]))
    |_=>exact ZA)
end
end
end
section
section
section
variable{ih:PV->PV->M Bool}(H:dY ih)
include H
theorem VJ0{τ:C0->Ty}{σ:K1}{i:C0}{l:PV}(hi:i<E6)(hl:Vd E6 l):Gm (λ R3 _ t=>t=w6 (W7 (R3 i)) (.KD (Q9 R3 l))) (Sp ih i l) τ σ:=by
 intro ok P X M0;have d:=uJ ok hi;unfold Sp at M0;cases e:vN (X8 (I7 i))with
 |H0=>rw[e]at M0;exact C4
 |E0 c=>
  rw[e]at M0;have sh:=Tt ok d.1 e;obtain⟨R3,c5,t,ts,j8,r,p⟩:=Ut H c l τ σ sh.1 hl ok P X M0;refine⟨R3,c5,t,ts,j8,?_,p⟩;rw[yF i hi,<-d.2,sh.2,cQ,<-(kF ts sh.1).2];exact r
theorem Bj{τ:C0->Ty}{σ:K1}{i:C0}{l:PV}(hi:i<E6)(hl:Vd E6 l):Gm (λ R3 _ t=>t=w6 (W7 (R3 i)) (.KD (Q9 R3 l))) (DV ih i l) τ σ:=by
 cases l using Q3 with
 |B0=>
  refine r8 ?_;show R0=w6 (W7 (τ i)) (.KD []);rw[vI];simp[w6,YC]
 |A0 a r=>
  cases a using Q3 with
  |Z0 h=>
   refine af (Rt hi) λ R3 c5 t ts j8 e=>?_;cases t using o7 with
   |I0=>exact VJ0 H (W8 hi fK) (hl.E5 fK)
   |R0=>
    refine r8 ?_;show R0=w6 (W7 (R3 i)) (.KD (.Z0 (uA h)::Q9 R3 r));rw[vI,cQ,yH,vM,Qc (Rc _) hl.1,yF i hi,<-e];rfl
  |_=>exact ZA
 |_=>exact ZA
theorem WJ0{τ:C0->Ty}{σ:K1}{i j m d m' d':C0}(hi:i<E6)(hj:j<E6)(a1:m<32)(a2:qC m (τ i).hd=I0)(a3:(τ i).iI<=d)(b1:m'<32)(b2:qC m' (τ j).hd=I0)(b3:(τ j).iI<=d'):
  Gm (λ R3 _ t=>t=w6 (W7 (R3 i)) (W7 (R3 j))) (Tp i j m d m' d') τ σ:=by
 intro ok P X M0;unfold Tp at M0;cases e:Y1 (VP m m') 0 with
 |I0=>
  rw[e]at M0;refine⟨τ,σ,R0,.M5 ..,ok,Ot (s:=τ i) (t:=τ j) λ q=>?_,M0⟩;have:=(o30 m a1 m' b1 (τ i).hd (yS _) a2 (by rw[q];exact b2)).2.1;rw[e]at J2;contradiction
 |R0=>
  rw[e]at M0;by_cases q:τ i=τ j
  ·have M0:=M0 0 (by decide);have bl:=o30 m a1 m' b1 (τ i).hd (yS _) a2 (by rw[q];exact b2);have Dt:lA τ (uN j (.RC (VP m m') (bif T9 d d' then d else d'))):=ok.bJ ⟨bl.1,by rw[<-q];exact bl.2.2,by
    cases T9 d d' using o7 with
    |I0=>rw[<-q];exact a3
    |R0=>exact b3⟩
   have ok2:lA τ ((uN j (.RC (VP m m') (bif T9 d d' then d else d'))).bJ i (.al j)):=Dt.bJ (i:=i) (x:=.al j) ⟨hj,q⟩;exact⟨τ,_,I0,(TS.bJ ..).U2 (.bJ ..),ok2,by dsimp only;rw[q];exact F40 _,M0⟩
  ·have M0:=M0 1 (by decide);exact⟨τ,_,R0,.xX ..,ok.xX hi hj q,Ot (s:=τ i) (t:=τ j) q,M0⟩
theorem XJ0{τ:C0->Ty}{σ:K1}{i j:C0}(hi:i<E6)(hj:j<E6):Gm (λ R3 _ t=>t=w6 (W7 (R3 i)) (W7 (R3 j))) (L10 ih i j (X8 i) (X8 j)) τ σ:=by
 intro ok;have i1:=nN i hi;have i2:=nN j hj;have U7:∀x,vN (X8 i)=E0 x->Gm (λ R3 _ t=>t=w6 (W7 (R3 i)) (W7 (R3 j))) (DV ih j x) τ σ:=λ x hx=>by
  have sh:=Tt ok hi hx;refine(Bj H hj sh.1).E5 λ R3 c5 t ts j8 e=>?_;rw[e,yi,(kF ts sh.1).2,<-sh.2,yF i hi]
 have Vt:∀x,vN (X8 j)=E0 x->Gm (λ R3 _ t=>t=w6 (W7 (R3 i)) (W7 (R3 j))) (DV ih i x) τ σ:=λ x hx=>by
  have sh:=Tt ok hj hx;refine(Bj H hi sh.1).E5 λ R3 c5 t ts j8 e=>?_;rw[e,(kF ts sh.1).2,<-sh.2,yF j hj]
 revert ok;cases hx:X8 i with
 |RC m d=>
  rw[hx]at i1;cases hy:X8 j with
  |RC m' d'=>rw[hy]at i2;exact WJ0 H hi hj i1.1 i1.2.1 i1.2.2 i2.1 i2.2.1 i2.2.2
  |mA k=>exact Vt _ (by rw[hy];rfl)
  |Y8 k=>exact Vt _ (by rw[hy];rfl)
  |Z8 k=>exact Vt _ (by rw[hy];rfl)
  |al k=>exact ZA
 |mA k=>exact U7 _ (by rw[hx];rfl)
 |Y8 k=>exact U7 _ (by rw[hx];rfl)
 |Z8 k=>exact U7 _ (by rw[hx];rfl)
 |al k=>exact ZA
theorem YJ0{τ:C0->Ty}{σ:K1}{i j:C0}(hi:i<E6)(hj:j<E6):Gm (λ R3 _ t=>t=w6 (W7 (R3 i)) (W7 (R3 j))) (Up ih i j) τ σ:=by
 intro ok P X M0;have d1:=uJ ok hi;have d2:=uJ ok hj;unfold Up at M0;cases e:Y1 (I7 i) (I7 j)with
 |I0=>
  rw[e]at M0;refine⟨τ,σ,I0,.M5 ..,ok,?_,M0⟩;rw[<-d1.2,<-d2.2,M6 e];exact F40 _
 |R0=>
  rw[e,NH]at M0;cases e2:UA0 (I7 i) (I7 j)with
  |I0=>
   rw[e2]at M0;have:=PJ0 ok e2;exact⟨τ,_,R0,.xX ..,ok.xX d1.1 d2.1 J2,Ot (s:=τ i) (t:=τ j) (by rw[<-d1.2,<-d2.2];exact J2),M0⟩
  |R0=>
   rw[e2]at M0;obtain⟨R3,c5,t,ts,j8,r,p⟩:=XJ0 H d1.1 d2.1 ok P X M0;refine⟨R3,c5,t,ts,j8,?_,p⟩;rw[r,yF i hi,yF j hj,yF _ d1.1,yF _ d2.1,d1.2,d2.2]
end
theorem ZJ0{τ:C0->Ty}{σ:K1}{i j:C0}(hi:i<E6)(hj:j<E6)(l:P0 C0)(hl:∀k∈l,k<5):Gm (λ R3 _ t=>t=Y1 (R3 i).hd (R3 j).hd) (K10 i j l) τ σ:=by
 induction l generalizing τ σ with
 |B0=>exact ZA
 |A0 k l ihl=>
  have hk:=hl k (aE ..);refine af (R:=λ _ _ t=>t=Y1 (τ i).hd k) (Y_ (m':=ja i k (X8 i)) O (Ft hi hk)) λ R3 c5 t ts j8 e=>?_;have NM:=W8 hi fK;have hj':=W8 hj fK;cases t using o7 with
  |R0=>exact ihl NM hj' λ q hq=>hl q (AC _ hq)
  |I0=>
   have:(τ i).hd=k:=M6 td;refine(Y_ (m':=ja j k (c5.ti j)) O (Ft hj' hk)).E5 λ uM Kf t dQ G40 GO=>?_;rw[GO,dQ.τ i NM,dQ.τ j hj',yF i hi,J2];cases q:Y1 (R3 j).hd k with
   |I0=>rw[M6 q,oZ]
   |R0=>exact(DT λ z=>tA q z.Z3).Z3
theorem aJ0{τ:C0->Ty}{σ:K1}{i j:C0}(hi:i<E6)(hj:j<E6):Gm (λ R3 _ t=>t=Y1 (R3 i).hd (R3 j).hd) (Rp i j) τ σ:=by
 intro ok P X M0;have d1:=uJ ok hi;have d2:=uJ ok hj;unfold Rp at M0;cases e:Y1 (I7 i) (I7 j)with
 |I0=>
  rw[e]at M0;refine⟨τ,σ,I0,.M5 ..,ok,?_,M0⟩;rw[<-d1.2,<-d2.2,M6 e,oZ]
 |R0=>
  rw[e]at M0;obtain⟨R3,c5,t,ts,j8,r,p⟩:=ZJ0 d1.1 d2.1 [3,4,0,2,1] (by decide) ok P X M0;refine⟨R3,c5,t,ts,j8,?_,p⟩;rw[r,yF i hi,yF j hj,yF _ d1.1,yF _ d2.1,d1.2,d2.2]
theorem bJ0{t:Ty}{d:VA}(h:∀l,d≠.KD l):R0=w6 (W7 t) d:=by
 rw[vI];cases d with
 |KD l=>exact U3 O (h l)
 |_=>simp[w6]
set_option tactic.hygienic true in
theorem cJ0(i j:B2):ua i j=(i==j):=by
 cases i using ZL<;>cases j using ZL
 ·rename_i a b;show Y1 a b=_;cases e:Y1 a b with
  |I0=>rw[M6 e];simp
  |R0=>have:=tA e;simpa using λ q=>J2 (by exact_mod_cast q)
 ·show R0=_;simp
 ·show R0=_;simp
 ·rename_i a b;show Y1 a b=_;cases e:Y1 a b with
  |I0=>rw[M6 e];simp
  |R0=>have:=tA e;simpa using J2
theorem dJ0{ih:PV->PV->M I1}(H:dY ih):dY (M10 ih):=by
 intro a b τ σ ha hb;cases a using Q3 with
 |H0=>cases b using Q3 with
  |ty j=>exact r8 (show R0=w6 .H0 (W7 (τ j)) by rw[vI];simp[w6])
  |_=>first|exact ZA|exact r8 (show _=w6 _ _ by trivial)
 |O3 x=>cases b using Q3 with
  |O3 y=>exact r8 (show _=w6 (.O3 x) (.O3 y) by cases x using o7<;>cases y using o7<;>simp[w6])
  |ty j=>exact r8 (show R0=w6 (.O3 x) (W7 (τ j)) by rw[vI];simp[w6])
  |_=>first|exact ZA|exact r8 (show _=w6 _ _ by trivial)
 |j0 x=>cases b using Q3 with
  |j0 y=>exact r8 (show ua x y=w6 (.j0 x) (.j0 y) by rw[cJ0];simp[w6])
  |ty j=>exact r8 (show R0=w6 (.j0 x) (W7 (τ j)) by rw[vI];simp[w6])
  |_=>first|exact ZA|exact r8 (show _=w6 _ _ by trivial)
 |Z0 x=>cases b using Q3 with
  |Z0 y=>exact r8 (show Y1 x y=w6 (.Z0 (uA x)) (.Z0 (uA y)) by rw[vM,Qc ha hb])
  |pC i=>
   refine(Rt hb).E5 λ R3 c5 t ts j8 e=>?_;show t=w6 (.Z0 (uA x)) (.Z0 (uA (ID (R3 i).hd)));rw[yi,vM,Qc (Rc _) ha,yF i hb];exact e
  |ty j=>exact r8 (show R0=w6 (.Z0 (uA x)) (W7 (τ j)) by rw[vI];simp[w6])
  |_=>first|exact ZA|exact r8 (show _=w6 _ _ by trivial)
 |Q0 l=>cases b using Q3 with
  |Q0 m=>exact(Ut H l m τ σ ha hb).E5 λ R3 c5 t ts j8 e=>show t=w6 (.KD (Q9 R3 l)) (.KD (Q9 R3 m)) by rw[cQ];exact e
  |ty j=>exact(Bj (l:=l) H hb ha).E5 λ R3 c5 t ts j8 e=>show t=w6 (.KD (Q9 R3 l)) (W7 (R3 j)) by rw[yi];exact e
  |_=>first|exact ZA|exact r8 (show _=w6 _ _ by trivial)
 |ty i=>cases b using Q3 with
  |Q0 m=>exact Bj (l:=m) H ha hb
  |ty j=>exact YJ0 H ha hb
  |_=>first|exact ZA|exact r8 (show R0=w6 (W7 (τ i)) _ from bJ0 λ _=>by simp[HG,nO])
 |pC i=>cases b using Q3 with
  |Z0 y=>
   refine(Rt ha).E5 λ R3 c5 t ts j8 e=>?_;show t=w6 (.Z0 (uA (ID (R3 i).hd))) (.Z0 (uA y));rw[vM,Qc (Rc _) hb,yF i ha];exact e
  |pC j=>
   refine(aJ0 ha hb).E5 λ R3 c5 t ts j8 e=>?_;show t=w6 (.Z0 (uA (ID (R3 i).hd))) (.Z0 (uA (ID (R3 j).hd)));rw[vM,qi];exact e
  |_=>exact ZA
 |_=>exact ZA
theorem eJ0(n:C0):dY (eqN n):=by
 induction n with
 |K9=>exact λ a b τ σ _ _=>ZA
 |J9 n ih=>exact dJ0 ih
theorem Wt:dY pj:=eJ0 14
theorem fJ0(l m:PV)(τ:C0->Ty)(σ:K1)(hl:Vd E6 l)(hm:Vd E6 m):Gm (Aj l m) (eqL l m) τ σ:=Ut Wt l m τ σ hl hm
theorem H40(a:PV):∀(l:PV)(τ:C0->Ty)(σ:K1),Vd E6 a->Vd E6 l->Gm (λ R3 _ t=>t=(Q9 R3 l).K4 (λ y=>w6 y (HG R3 a))) (Xp a l) τ σ:=by
 intro l;induction l with
 |A0 b r _ RA=>
  intro τ σ ha hl;refine af (Wt b a τ σ hl.1 ha) λ R3 c5 t ts j8 e=>?_;cases t using o7 with
  |I0=>exact r8 (show I0=(HG R3 b::Q9 R3 r).K4 _ by rw[rV0,<-e];rfl)
  |R0=>
   refine(RA R3 c5 (PB0 fK) (hl.2.E5 fK)).E5 λ uM Kf t dQ G40 GO=>?_;show t=(HG uM b::Q9 uM r).K4 _;rw[rV0,(kF dQ (hl.1.E5 fK)).1,(kF dQ (PB0 fK)).1,<-e,GO,(kF dQ (PB0 fK)).1];rfl
 |B0=>exact λ τ σ _ _=>r8 O
 |kv=>exact λ τ σ _ _=>ZA
 |Q0 l ih=>exact λ τ σ _ _=>r8 O
 |_=>exact λ τ σ _ _=>r8 O
end
end
section
section
variable{B:Bs}
theorem gJ0{s:u0}(h:vc s≠0):VA.strOk s=I0:=by
 unfold VA.strOk;rw[<-M4.all_toList];have:∀l:P0 C0,c7 l≠0->l.dA (· <0x110000)=I0:=by
  intro l;induction l with
  |B0=>exact λ _=>O
  |A0 c l ih=>
   intro hl;have ht:=aY (c:=c) (n:=c7 l) hl;have hc:c<1114112:=by
    change sC c (c7 l)≠0 at hl;unfold sC at hl;rw[DT ht,NH]at hl;cases hb:Y6 c 1114112 with
    |R0=>rw[hb]at hl;exact U3 O hl
    |I0=>exact Pl hb
   rw[Gc,ih ht,Tl];exact RW hc
 exact J2 _ h
theorem hJ0{a b:C0}(h:CY a b≠0):a≠0/\b≠0/\a<=CY a b/\b<=CY a b:=by
 unfold CY at h ⊢;cases ha:Y1 a 0 with
 |I0=>rw[ha]at h;exact U3 O h
 |R0=>
  cases hb:Y1 b 0 with
  |I0=>rw[ha,hb]at h;exact U3 O h
  |R0=>
   refine⟨tA ha,tA hb,?_⟩;cases hc:T9 a b with
   |I0=>exact⟨u6 hc,B8 _⟩
   |R0=>
    have:¬a<=b:=λ q=>by rw[f80 q]at hc;contradiction
    rw[NH];exact ω60 ‹_›
theorem iJ0{a:C0}(h:ya a≠0):a≠0/\ya a=a+1:=by
 unfold ya at h ⊢;cases ha:Y1 a 0 with
 |I0=>rw[ha]at h;exact U3 O h
 |R0=>exact⟨tA ha,O⟩
structure RD(h:O1)(v:K0)(d:VA)(k:C0):Prop where
 r:∃as,Reads h v d as
 c:d.canLay0=I0
 d:Ro<=k
structure EL(h:O1)(v:P0 K0)(d:P0 VA)(k:C0):Prop where
 r:∃as,ReadsAll h v d as
 c:sV0 d=I0
 d:Qb d<=k
theorem RD.E5{h v d k k'}(x:RD h v d k)(hk:k<=k'):RD h v d k':=⟨x.r,mo,X6 x.d hk⟩
theorem EL.E5{h v d k k'}(x:EL h v d k)(hk:k<=k'):EL h v d k':=⟨x.r,mo,X6 x.d hk⟩
theorem qz{h k}:EL h [] [] k:=⟨⟨_,.B0⟩,by trivial,by simp[Qb]⟩
theorem EL.A0{h v d vs ds k}(x:RD h v d k)(y:EL h vs ds k):EL h (v::vs) (d::ds) k:=by
 obtain⟨as,r⟩:=x.r;obtain⟨bs,s⟩:=y.r;exact⟨⟨_,.A0 r s⟩,by simp[sV0,mo,qo],by simp only[Qb];exact C0.NW0 ⟨x.d,y.d⟩⟩
theorem DB0{h:O1}{a vs n ds k}(e:C3 a=E0 (F8 vs n))(y:EL h vs ds k):RD h (.J0 a) (.KD ds) (k+1):=by
 obtain⟨bs,s⟩:=y.r;exact⟨⟨_,.KD e O O (by simpa using s)⟩,by simpa[IA0]using qo,by simp only[Hd];exact CK y.d⟩
theorem RD.Z0{h:O1}{s:u0}{t n k}(h0:n≠0)(e:vc s=n):RD h (.Z0 s t) (.Z0 (uA n)) k:=by
 subst e;rw[Ht h0];exact⟨⟨_,.Z0 s t⟩,by simpa[IA0]using gJ0 h0,by simp[Hd]⟩
theorem Yt{T W K:C0->O1->K0->Prop}{n:C0}{ρ:C0->H1}{av:P0 H1}{h:O1}{dt dw dk:C0->VA}{m:C0}
  (hT:∀i v,T i h v->i<m/\RD h v (dt i) 7)(hW:∀i v,W i h v->i<m/\RD h v (dw i) 16)(hK:∀i v,K i h v->i<m/\RD h v (dk i) 1)(p:PV)(hd:SD p≠0):
  (∀v,(vP T W K n ρ av h p).1 v->Vd m p/\RD h v (nO dt dw dk p).1 (SD p))/\(∀l,(vP T W K n ρ av h p).2 l->Vd m p/\EL h l (nO dt dw dk p).2 (SD p)):=by
 induction p with
 |H0=>exact⟨λ v e=>by cases e;exact⟨FE,⟨⟨_,.H0⟩,by trivial,by simp[nO,Hd]⟩⟩,λ _ x=>jD⟩
 |O3 b=>exact⟨λ v e=>by cases e;exact⟨FE,⟨⟨_,.O3 b⟩,by trivial,by simp[nO,Hd]⟩⟩,λ _ x=>jD⟩
 |j0 i=>exact⟨λ v Z2=>by obtain⟨t,e⟩:=Z2;cases e;exact⟨FE,⟨⟨_,.j0 i t⟩,by trivial,by simp[nO,Hd]⟩⟩,λ _ x=>jD⟩
 |Z0 k=>exact⟨λ v Z2=>by obtain⟨h0,s,t,e,q⟩:=Z2;cases e;exact⟨⟨h0,s,q⟩,RD.Z0 h0 q⟩,λ _ x=>jD⟩
 |EG=>exact U3 O hd
 |B0=>exact⟨λ _ x=>jD,λ l e=>by cases e;exact⟨FE,qz⟩⟩
 |A0 a r MG RA=>
  have q:CY (SD a) (SD r)≠0:=hd;obtain⟨q1,q2,q3,q4⟩:=hJ0 q;exact⟨λ _ x=>jD,λ l ⟨v,w,e,x,y⟩=>by
   subst e;have x':=(MG q1).1 v x;have y':=(RA q2).2 w y;exact⟨⟨x'.1,y'.1⟩,EL.A0 (x'.2.E5 q3) (y'.2.E5 q4)⟩⟩
 |kv=>exact U3 O hd
 |Q0 l ih=>
  have q:=iJ0 (a:=SD l) hd;exact⟨λ v ⟨a,vs,k,e,z,x,y⟩=>by
   subst e;have y':=(ih q.1).2 vs y;refine⟨y'.1,?_⟩;show RD h (.J0 a) (.KD (nO dt dw dk l).2) (ya (SD l));rw[q.2];exact DB0 x y'.2,λ _ x=>jD⟩
 |J0=>exact U3 O hd
 |Y0=>exact U3 O hd
 |ty i=>exact⟨λ v x=>⟨(hT i v x).1,(hT i v x).2⟩,λ _ x=>jD⟩
 |wr i=>exact⟨λ v x=>⟨(hW i v x).1,(hW i v x).2⟩,λ _ x=>jD⟩
 |pC i=>exact⟨λ v x=>⟨(hK i v x).1,(hK i v x).2⟩,λ _ x=>jD⟩
theorem eY{av:P0 H1}{h:O1}{p:PV}{v:K0}(hd:SD p≠0)(x:rJ av p h v):RD h v (cY p) (SD p):=
 ((Yt (m:=0) (dt:=bY) (dw:=bY) (dk:=bY) (λ _ _ q=>Q6) (λ _ _ q=>Q6) (λ _ _ q=>Q6) p hd).1 v x).2
def W4(l:P0 Ty):P0 Ty:=[.u8,.yE,.X]++wP .Y8++wP .Z8
def I40:P0 Ty:=W4 (W4 (W4 []))
theorem Cj{t:Ty}{l:P0 Ty}(h:DS=0\/∃s,s∈l/\(t=.Y8 s\/t=.Z8 s)):t∈W4 l:=by
 unfold W4;rcases h with h|⟨s,hs,O|O⟩
 ·cases t using SG<;>simp_all [Gn]
 ·simp[hs]
 ·simp[hs]
theorem Dj{t:Ty}(h:DS<=2):t∈I40:=by
 have m0:∀t:Ty,DS<=0->t∈W4 []:=λ t h=>Cj (.S2 (by exact C0.eq_zero_of_le_zero ‹_›));have K6:∀{k l},(∀t:Ty,DS<=k->t∈l)->∀t:Ty,DS<=k+1->t∈W4 l:=λ{k l} ih t h=>by
  cases t using SG with
  |Y8 s=>exact Cj (.L2 ⟨s,ih s (by simp[Gn]at h;omega),.S2 O⟩)
  |Z8 s=>exact Cj (.L2 ⟨s,ih s (by simp[Gn]at h;omega),.L2 O⟩)
  |_=>exact Cj (.S2 O)
 exact K6 (K6 m0) t h
theorem Ej:∀t∈I40,(SD XF≠0/\SD XF<=7)/\(SD xU≠0/\SD xU<=16):=by decide +F7
theorem Fj{G:Gh}{h:O1}(ok:lA J5 R1){p:PV}{v:K0}(hd:SD p≠0)(x:H3 G h p v):Vd UB p/\RD h v (HG J5 p) (SD p):=
 (Yt (λ i v q=>⟨q.1,have d:=(Ej _ (Dj (IX i q.1))).1;(eY d.1 q.2).E5 d.2⟩) (λ i v q=>⟨q.1,have d:=(Ej _ (Dj (IX i q.1))).2;(eY d.1 q.2).E5 d.2⟩)
  (λ i v q=>⟨q.1,eY (p:=.Z0 _) OU0 q.2⟩) p hd).1 v x
theorem Gj{G:Gh}{h:O1}(ok:lA J5 R1){p:PV}{v:P0 K0}(hd:SD p≠0)(x:A4 G h p v):Vd UB p/\EL h v (Q9 J5 p) (SD p):=
 (Yt (λ i v q=>⟨q.1,have d:=(Ej _ (Dj (IX i q.1))).1;(eY d.1 q.2).E5 d.2⟩) (λ i v q=>⟨q.1,have d:=(Ej _ (Dj (IX i q.1))).2;(eY d.1 q.2).E5 d.2⟩)
  (λ i v q=>⟨q.1,eY (p:=.Z0 _) OU0 q.2⟩) p hd).2 v x
theorem IT{p:PV}(h:ZO p=I0):SD p≠0/\SD p<=60:=by
 unfold ZO at h;cases e:Y1 (SD p) 0 with
 |I0=>rw[e]at h;contradiction
 |R0=>rw[e]at h;exact⟨tA e,u6 h⟩
def Gh.upT(G:Gh)(σ:K1)(τ:C0->Ty):Gh:=⟨σ,Y2,τ,F5⟩
theorem J1.upT{A:C6}{G:Gh}{s:D1}(g:J1 B A G s){σ:K1}{τ:C0->Ty}(ts:TS R1 J5 σ τ)(ok:lA τ σ):J1 B A (WX σ τ) s/\A3 B N2 G s (WX σ τ) s:=by
 have le:FO (WX σ τ):=⟨MP ts.n.Z3,λ _ _=>O,O,fK,yF⟩;have q8:∀i,(WX σ τ).σ.q8 i=P3 i:=λ i=>by show σ.cX i=_;rw[ts.t];rfl
 have n:(WX σ τ).σ.n=J3:=ts.n;have v9:∀b,w9 (WX σ τ) b->w9 G b:=λ b zz=>nU zz λ i h1 h2 h3=>⟨i,by rw[<-n];exact h1,by rw[<-q8];exact h2,h3⟩;have Q0:CC F5 W0 W0:=λ _ _ _ _ e=>e;refine⟨⟨ok,⟨λ i j hi hj ni nj e=>UG i j (n▸hi) (n▸hj) (q8 i▸ni) (q8 j▸nj) e,λ i hi=>?_,λ i hi=>?_,λ i hi hn=>yC i (n▸hi) (q8 i▸hn),DE⟩,VB,lE,WJ⟩,
  ⟨W0,X4,O⟩,le,λ b x=> .S2 (v9 b x),λ b o e=>⟨o,e⟩,λ b o e _ _ _=>⟨o,e,.M5 o⟩,Q0,.M5 _⟩
 ·rw[q8];exact(HA i (n▸hi)).E5 le Q0 (.M5 _) (λ _ e=>e) λ d l _ e=>⟨l,(q8 d).U2 e⟩
 ·rw[q8];exact kL i (n▸hi)
theorem zH{F:H1->Prop}{G G':Gh}{s s':D1}(x:A3 B N2 G s G' s'):A3 B F G s G' s':=y00 λ _ q=>Q6
section
variable{α β:Type}{F:Addr->Prop}{A:Around}{G:Gh}{s:Shared}
theorem V4.GX0{m:M α}{t:Y7 β}{R:(C0->Ty)->K1->α->Prop}{RR:Gh->O1->α->β->Prop}(g:J1 B A G s)(h:Gm R m J5 R1)
  (k:∀R3 c5 a,TS R1 J5 c5 R3->R R3 c5 a->∀{Q:β->D1->Prop}{E},(∀b,RR (WX c5 R3) W0 a b->Q b s)->V0 R2 A t Q E s):V4 B RR F A m t G s:=λ P X M0=>by
 obtain⟨R3,c5,a,ts,j8,r,p⟩:=h LE P X M0;obtain⟨g',st⟩:=g.upT ts j8;exact k R3 c5 a ts r λ b rr=>⟨_,a,zH st,g',rr,p⟩
end
end
end
section
variable{B:Bs}{A:Around}{G:Gh}{s:Shared}{F:Addr->Prop}
noncomputable abbrev RB:Gh->O1->I1->K0->Prop:=λ _ _ b v=>v=.O3 b
def Cu(A:C6):Prop:=vL+100<jP
theorem Hj{h:O1}{p:PV}{v:K0}(r:H3 G h p v)(hp:p≠.H0):v≠.H0/\XA0 v .H0=I0:=by
 have Z0:∀(x:u0)(t:P6),(on x t≠.H0/\XA0 (.Z0 x t) .H0=I0):=λ x t=>⟨by simp,O⟩;have J0:∀(x:H1),(x6 x≠.H0/\XA0 (.J0 x) .H0=I0):=λ x=>⟨by simp,O⟩;cases p using Q3 with
 |H0=>exact U3 O hp
 |O3=>cases r;exact⟨by simp,O⟩
 |j0=>obtain⟨_,O⟩:=r;exact⟨by simp,O⟩
 |Z0=>obtain⟨_,_,_,O,_⟩:=r;exact Z0 _ _
 |EG=>obtain⟨_,_,O,_⟩:=r;exact Z0 _ _
 |Q0=>obtain⟨_,_,_,O,_⟩:=r;exact J0 _
 |J0=>obtain⟨_,O⟩:=r;exact J0 _
 |Y0=>cases r;exact J0 _
 |ty i=>
  obtain⟨_,r⟩:=r;revert r;cases J5 i<;>(intro r;obtain⟨_,_,_,O,_⟩:=r;exact J0 _)
 |wr i=>
  obtain⟨_,r⟩:=r;revert r;cases J5 i<;>(intro r;obtain⟨_,_,_,O,_⟩:=r;exact J0 _)
 |pC i=>obtain⟨_,r⟩:=r;obtain⟨_,_,_,O,_⟩:=r;exact Z0 _ _
 |B0=>exact YI
 |A0=>exact YI
 |kv=>exact YI
theorem jJ0{a:PV}{v:K0}(g:J1 B A G s)(r:H3 G W0 a v):V4 B RB F A (W1 (fE a)) (ZN .Is v .H0) G s:=by
 intro P X M0;cases a using Q3 with
 |H0=>cases r;exact wpAny_is_self (a:=.H0) (by rfl) (.EB (R:=RB) g O M0)
 |_=>exact wpAny_is_other (Hj r (λ e=>nomatch e)).2 (Hj r (λ e=>nomatch e)).1 (.EB (R:=RB) g O M0)
theorem kJ0{a:PV}{v:K0}(g:J1 B A G s)(r:H3 G W0 a v):V4 B RB F A (W1 (!(fE a))) (ZN .tm v .H0) G s:=by
 intro P X M0;cases a using Q3 with
 |H0=>cases r;exact wpAny_isNot_self (a:=.H0) (by rfl) (.EB (R:=RB) g O M0)
 |_=>exact wpAny_isNot_other (Hj r (λ e=>nomatch e)).2 (Hj r (λ e=>nomatch e)).1 (.EB (R:=RB) g O M0)
set_option tactic.hygienic true in
theorem Zt(i j:B2):Xg i j=JE (i<j):=by
 cases i using ZL<;>cases j using ZL
 ·rename_i a b;show Y6 a b=_;cases e:Y6 a b with
  |I0=>have:=Pl e;exact(RW (by simpa using J2)).Z3
  |R0=>exact(Fk λ q=>by rw[IH.C8 (by simpa using q)]at e;contradiction).Z3
 ·rename_i a b;exact(Fk (by rw[VZ];omega)).Z3
 ·rename_i a b;exact(RW (by rw[VZ];omega)).Z3
 ·rename_i a b;show Y6 b a=_;cases e:Y6 b a with
  |I0=>have:=Pl e;exact(RW (by exact ω85 ‹_›)).Z3
  |R0=>exact(Fk λ q=>by rw[IH.C8 (by exact ω77 ‹_›)]at e;contradiction).Z3
theorem jt{op:gG}{so:jE}(ho:(op=.gt/\so=.Gt)\/(op=.lt/\so=.Lt)\/(op=.ge/\so=.Yg)){a b:PV}{v w:K0}(g:J1 B A G s)(r:H3 G W0 a v)(r':H3 G W0 b w):
  V4 B RB F A (Bh op a b) (ZN so v w) G s:=by
 intro P X M0;cases a using Q3 with
 |j0 i=>
  cases b using Q3 with
  |j0 j=>
   obtain⟨t,O⟩:=r;obtain⟨u,O⟩:=r';rcases ho with⟨O,O⟩|⟨O,O⟩|⟨O,O⟩
   ·refine eM.gt_int (.EB (R:=RB) g O ?_);rw[<-Zt];exact M0
   ·refine eM.lt_int (.EB (R:=RB) g O ?_);rw[<-Zt];exact M0
   ·refine PW0 (.EB (R:=RB) g O ?_);have:JE (i≥j)=!Xg i j:=by rw[Zt];by_cases q:i<j<;>simp[q]<;>exact uk ‹_›
    rw[J2];exact M0
  |_=>exact C4
 |_=>exact C4
theorem yG{h:O1}{C:PV->P0 K0->Prop}(hn:C .B0 [])(hc:∀a r v q,H3 G h a v->A4 G h r q->C r q->C (.A0 a r) (v::q)){l:PV}{vs:P0 K0}(x:A4 G h l vs):C l vs:=by
 induction l generalizing vs with
 |B0=>rw[show vs=[]from x];exact hn
 |A0 a r _ ih=>obtain⟨v,q,e,hv,hr⟩:=x;rw[e];exact hc a r v q hv hr (ih hr)
 |_=>exact jD
inductive qt(G:Gh)(h:O1):PV->P0 K0->Prop
 |B0:qt G h .B0 []
 |A0{a r:PV}{v:K0}{q:P0 K0}(ra:H3 G h a v)(rr:A4 G h r q):qt G h (.A0 a r) (v::q)
theorem J40{h:O1}{l:PV}{v:K0}{q:P0 K0}(x:A4 G h l (v::q)):∃a r,l=.A0 a r/\H3 G h a v/\A4 G h r q:=by
 generalize hz:v::q=vs at x;refine yG (C:=λ l vs=>v::q=vs->∃a r,l=.A0 a r/\H3 G h a v/\A4 G h r q) (λ z=>by contradiction) (λ a r _ _ ra rr _ z=>?_) x hz;obtain⟨O,O⟩:=P0.A0.KT z;exact⟨a,r,O,ra,rr⟩
theorem K40{h:O1}{l:PV}(x:A4 G h l []):l=.B0:=by
 generalize hz:([]:P0 K0)=vs at x;exact yG (C:=λ l vs=>[]=vs->l=.B0) (λ _=>O) (λ _ _ _ _ _ _ _ z=>by contradiction) x hz
theorem Ij{h:O1}{l:PV}{vs:P0 K0}(x:A4 G h l vs):qt G h l vs:=yG .B0 (λ _ _ _ _ ra rr _=> .A0 ra rr) x
theorem vt{h:O1}{C:PV->P0 (u0×K0)->Prop}(hn:C .B0 [])(hc:∀k w r y u q,k≠0->vc y=k->H3 G h w u->U8 G h r q->C r q->C (.kv k w r) ((y,u)::q)){l:PV}{vs:P0 (u0×K0)}(x:U8 G h l vs):C l vs:=by
 induction l generalizing vs with
 |B0=>rw[show vs=[]from x];exact hn
 |kv k w r _ ih=>obtain⟨y,u,q,e,h0,hy,hv,hr⟩:=x;rw[e];exact hc k w r y u q h0 hy hv hr (ih hr)
 |_=>exact jD
theorem L40{h:O1}{l:PV}{V2:P0 (u0×K0)}(r:U8 G h l V2):KK=Z5 l:=
 vt (C:=λ l V2=>KK=Z5 l) O (λ _ _ _ _ _ _ _ _ _ _ ih=>H6 LH ih) r
theorem yt{h:O1}{l:PV}{V2:P0 (u0×K0)}(r:U8 G h l V2):JA l=JE (KK=0):=by
 cases l using Q3 with
 |B0=>cases r;rfl
 |kv k v q=>obtain⟨x,u,q',e,_⟩:=r;subst e;rfl
 |_=>exact YI
theorem Vc{h:O1}{l:PV}{vs:P0 K0}(r:A4 G h l vs):R7=Z5 l:=
 yG (C:=λ l vs=>R7=Z5 l) O (λ _ _ _ _ _ _ ih=>H6 LH ih) r
theorem Jj{h:O1}{l:PV}{vs:P0 K0}(r:A4 G h l vs):JA l=JE (R7=0):=by
 cases l using Q3 with
 |B0=>cases r;rfl
 |A0 a q=>obtain⟨v,q',e,_⟩:=r;subst e;rfl
 |_=>exact YI
theorem JT{x y:u0}{v:K0}{q:P0 (u0×K0)}:uF ((y,v)::q) x=if y=x then E0 v else uF q x:=by
 unfold uF;by_cases h:y=x
 ·rw[y3 h];simp[h]
 ·rw[w3 h];simp[h]
theorem MT{h:O1}{x:u0}(hx:vc x≠0){l:PV}{V2:P0 (u0×K0)}(r:U8 G h l V2):(I4 (vc x) l=H0/\uF V2 x=H0)\/∃p u,I4 (vc x) l=E0 p/\uF V2 x=E0 u/\H3 G h p u:=by
 refine vt (C:=λ l V2=>(I4 (vc x) l=H0/\uF V2 x=H0)\/∃p u,I4 (vc x) l=E0 p/\uF V2 x=E0 u/\H3 G h p u) (.S2 ⟨O,O⟩) (λ k v r y u q h0 hy hv _ ih=>?_) r;rw[xH,JT];by_cases e:y=x
 ·subst e;rw[y3 hy.Z3,y3 O];exact .L2 ⟨v,u,O,O,hv⟩
 ·rw[w3 (λ q=>e (mO (hy.U2 q) (by rw[hy];exact h0))),w3 e];exact ih
theorem Au(x:u0)(v:K0):QJ [] x v=[(x,v)]:=O
theorem Bu{x y:u0}{u v:K0}{q:P0 (u0×K0)}(hn:y∉q.Y4 (·.1)):QJ ((y,u)::q) x v=if y=x then(y,v)::q else(y,u)::QJ q x v:=by
 unfold QJ;by_cases h:y=x
 ·subst h;rw[y3 O,y3 (by simp)];rw[FU,y3 O,map_store_of_not_mem q y v hn]
 ·rw[w3 h];by_cases h2:q.K4 (λ kv=>kv.1=x)=I0
  ·rw[y3 (by simp[h2]),y3 h2];simp[h]
  ·rw[w3 (by simp[h,h2]),w3 h2];rfl
theorem Wc{h:O1}{x:u0}{p:PV}{v:K0}(hx:vc x≠0)(hv:H3 G h p v){l:PV}{V2:P0 (u0×K0)}(hn:(lN (·.1)).JD)(r:U8 G h l V2):U8 G h (A6 (vc x) p l) (QJ V2 x v):=by
 refine vt (C:=λ l V2=>(lN (·.1)).JD->U8 G h (A6 (vc x) p l) (QJ V2 x v)) (λ _=>⟨x,v,[],O,hx,O,hv,O⟩) (λ k w r y u q h0 hy hw hr ih hn=>?_) r hn;rw[FU,JP]at hn;rw[Bu hn.1];show U8 G h (bif Y1 k (vc x)then .kv k p r else .kv k w (A6 (vc x) p r)) _;by_cases e:y=x
 ·subst e;rw[y3 O,hy,oZ];exact⟨y,v,q,O,h0,hy,hv,hr⟩
 ·rw[w3 e,DT (λ q=>e (mO (hy.U2 q) (by rw[hy];exact h0)))];exact⟨y,u,_,O,h0,hy,hw,ih hn.2⟩
theorem fY{x:u0}{t:P6}:(GD gE oE).is x (.Z0 x t)=I0:=by
 show Hc x (.Z0 x t)=I0;simp[Hc]
theorem wx{h:O1}{a:H1}{V2:P0 (u0×K0)}(d:h.WR (GD gE oE) a V2):(lN (·.1)).JD:=by obtain⟨_,_,_,_,_,_,_,_,hn⟩:=d;exact hn
theorem wM(g:J1 B A G s){i:C0}(hi:i<J3)(hn:P3 i≠.K4):(Y2 i==vZ)=R0:=by
 have hb:=yC i hi hn;cases e:Y2 i==vZ with
 |R0=>rfl
 |I0=>
  have:Y2 i=vZ:=by simpa using e
  have hs:=B.Z30;rw[<-J2,hb]at hs;contradiction
def NT(B:Bs)(A:C6)(s:D1)(v w:K0)(t:I1):Prop:=
 (∀{Q:K0->D1->Prop}{E},Q (.O3 t) s->V0 R2 A (ZN .Eq v w) Q E s)/\(∀{Q:K0->D1->Prop}{E},Q (.O3 (!t)) s->V0 R2 A (ZN .Bz v w) Q E s)
theorem Iy{v w:K0}{d e:VA}{k l:C0}(hu:Cu A)(x:RD W0 v d k)(y:RD W0 w e l)(hk:k<=60):NT B A s v w (w6 d e):=by
 obtain⟨as,ra⟩:=x.r;obtain⟨bs,rb⟩:=y.r;have D6:vL+xB Ro e.DU<jP:=by
  have h1:=Fu Ro e.DU;have h2:=x.d;have:vL+100<jP:=hu;exact ω43 ‹_› ‹_› ‹_› ‹_›
 exact⟨λ h=>hT0 ra rb mo qo D6 h,λ h=>iT0 ra rb mo qo D6 h⟩
theorem wL{h:O1}{a vs n ds k}(e:C3 a=E0 (qB vs n))(y:EL h vs ds k):RD h (.J0 a) (.M1 ds) (k+1):=by
 obtain⟨bs,s⟩:=y.r;exact⟨⟨_,.M1 e O O (by simpa using s)⟩,by simpa[IA0]using qo,by simp only[Hd];exact CK y.d⟩
theorem lJ0{a b:PV}{v w:K0}(hu:Cu A)(g:J1 B A G s)(r:H3 G W0 a v)(r':H3 G W0 b w):Gm (λ _ _ t=>NT B A s v w t) (eqD a b) J5 R1:=by
 refine fU λ ha=>fU λ hb=>?_;obtain⟨a0,a1⟩:=IT ha;obtain⟨b0,b1⟩:=IT hb;have x:=Fj LE a0 r;have y:=Fj LE b0 r';refine(Wt a b J5 R1 x.1 y.1).E5 λ R3 c5 t ts j8 e=>?_;have e:t=_:=e;rw[e,(kF ts x.1).1,(kF ts y.1).1];exact Iy hu x.2 y.2 a1
theorem R9{h:O1}{a:H1}{vs:P0 K0}{n:C0}(e:C3 a=E0 (qB vs n)):Ky a OB:=⟨_,e,O,_,O⟩
theorem Xc{h:O1}{a:H1}{vs:P0 K0}{n:C0}(e:C3 a=E0 (F8 vs n)):h.IsTuple a OB:=⟨_,e,O,_,O⟩
theorem FL(h:Cu A):vL<jP:=by have:vL+100<jP:=h;exact ω25 ‹_›
theorem YA0{a b:H1}{vs ws:P0 K0}{n m:C0}(hu:Cu A)(e:F3 a=E0 (qB vs n))(e':F3 b=E0 (qB ws m))(hl:R7≠sf):NT B A s (.J0 a) (.J0 b) R0:=
 ⟨λ h=>pn.PU0 (R9 e) (R9 e') (by simpa using hl) (FL hu) _ _ _ _ h,λ h=>dm.PU0 (R9 e) (R9 e') (by simpa using hl) (FL hu) _ _ _ _ h⟩
theorem mJ0{i j:C0}{x y:AO}(hu:Cu A)(g:J1 B A G s)(hi:i<J3)(hj:j<J3)(ex:P3 i=x)(ey:P3 j=y):Gm (λ _ _ t=>NT B A s (.J0 (Y2 i)) (.J0 (Y2 j)) t) (O10 x y) J5 R1:=by
 have ox:=HA i hi;have oy:=HA j hj;rw[ex]at ox;rw[ey]at oy;cases x using FA with
 |M1 l=>
  cases y using FA with
  |M1 m=>
   obtain⟨vs,n,e1,r1⟩:=ox;obtain⟨ws,n',e2,r2⟩:=oy;have n1:=Jj r1;have n2:=Jj r2;show Gm _ (bif JA l then W1 (JA m)else bif JA m then W1 R0 else N10 l m) J5 R1;cases h1:JA l with
   |I0=>
    rw[h1]at n1;have z1:R7=0:=wa R00;refine r8 ?_;cases h2:JA m with
    |I0=>
     rw[h2]at n2;have z2:sf=0:=wa S00;have q1:=O80 z1;have q2:=O80 z2;subst q1;subst q2;exact Iy (d:=.M1 []) (e:=.M1 []) (k:=0+1) (l:=0+1) hu (wL e1 qz) (wL e2 qz) (by decide)
    |R0=>
     rw[h2]at n2;have z2:¬sf=0:=j80 S00;exact YA0 hu e1 e2 (by omega)
   |R0=>
    rw[h1]at n1;have z1:¬R7=0:=j80 R00;cases h2:JA m with
    |I0=>
     rw[h2]at n2;have z2:sf=0:=wa S00;exact r8 (YA0 hu e1 e2 (by omega))
    |R0=>
     refine fU λ ha=>fU λ hb=>?_;obtain⟨a0,a1⟩:=IT ha;obtain⟨b0,b1⟩:=IT hb;have x:=Gj LE a0 r1;have y:=Gj LE b0 r2;refine(fJ0 l m J5 R1 x.1 y.1).E5 λ R3 c5 t ts j8 e=>?_;have e:t=_:=e;rw[e,(kF ts x.1).2,(kF ts y.1).2];have hu':Cu A:=hu;have:=Iy (B:=B) (A:=A) (d:=.M1 (Q9 J5 l)) (e:=.M1 (Q9 J5 m)) hu (wL e1 (x.2.E5 a1)) (wL e2 y.2);obtain⟨as,ra⟩:=(wL e1 x.2).r;obtain⟨bs,rb⟩:=(wL e2 y.2).r;have D6:vL+xB (VA.M1 (Q9 J5 l)).DU (VA.M1 (Q9 J5 m)).DU<jP:=by
      have h1:=Fu (VA.M1 (Q9 J5 l)).DU (VA.M1 (Q9 J5 m)).DU;have h2:=(wL e1 x.2).d;have:vL+100<jP:=hu;omega
     have yW0:w6 (.M1 (Q9 J5 l)) (.M1 (Q9 J5 m))=YC (Q9 J5 l) (Q9 J5 m):=by simp[w6]
     exact⟨λ h=>hT0 ra rb (wL e1 x.2).c (wL e2 y.2).c D6 h,λ h=>iT0 ra rb (wL e1 x.2).c (wL e2 y.2).c D6 h⟩
  |_=>exact ZA
 |H2 l=>
  cases y using FA with
  |H2 m=>
   obtain⟨V2,d1,r1⟩:=ox;obtain⟨QA,d2,r2⟩:=oy;have s1:=wM g hi (by rw[ex];simp);have s2:=wM g hj (by rw[ey];simp);have n1:=yt r1;have n2:=yt r2;have eqd:∀{r:I1},(KK=Cf->KeqHits sB s QA V2 r)->NT B A s (.J0 (Y2 i)) (.J0 (Y2 j)) (KK==Cf&&r):=λ hh=>
    ⟨λ h=>keq_eq s1 s2 d1 d2 (FL hu) hh h,λ h=>keq_ne s1 s2 d1 d2 (FL hu) hh h⟩
   show Gm _ (bif JA l then W1 (JA m)else bif JA m then W1 R0 else F2 217) J5 R1;cases h1:JA l with
   |I0=>
    rw[h1]at n1;have z1:KK=0:=wa R00;have q1:=O80 z1;have:=eqd (r:=I0) (λ _=>by rw[q1];exact .B0);refine r8 ?_;rw[show(KK==Cf&&I0)=JA m by rw[n2,z1,Tl];cases h:Cf<;>simp]at J2;exact J2
   |R0=>
    rw[h1]at n1;have z1:¬KK=0:=j80 R00;cases h2:JA m with
    |I0=>
     rw[h2]at n2;have z2:Cf=0:=wa S00;have:=eqd (r:=I0) (λ q=>U3 (q.U2 z2) z1);refine r8 ?_;rw[show(KK==Cf&&I0)=R0 by rw[z2];simpa using z1]at J2;exact J2
    |R0=>exact ZA
  |_=>exact ZA
 |_=>exact ZA
theorem M40{i:C0}{x:AO}{b:PV}{w:K0}(hu:Cu A)(g:J1 B A G s)(hi:i<J3)(ex:P3 i=x)(r:H3 G W0 b w):
  Gm (λ _ _ t=>NT B A s (.J0 (Y2 i)) w t/\NT B A s w (.J0 (Y2 i)) t) (Ab x b) J5 R1:=by
 have ox:=HA i hi;rw[ex]at ox;cases x using FA with
 |M1 l=>
  obtain⟨vs,n,e1,r1⟩:=ox;cases b using Q3 with
  |Z0 k=>
   obtain⟨_,x,t,O,_⟩:=r;exact r8 ⟨⟨λ h=>pn.QW0 x t (R9 e1) (FL hu) _ _ _ _ h,λ h=>dm.QW0 x t (R9 e1) (FL hu) _ _ _ _ h⟩,
    ⟨λ h=>pn.SW0 x t (R9 e1) (FL hu) _ _ _ _ h,λ h=>dm.SW0 x t (R9 e1) (FL hu) _ _ _ _ h⟩⟩
  |Q0 m=>
   obtain⟨a,ws,k,O,_,e2,_⟩:=r;exact r8 ⟨⟨λ h=>pn.YV0 (R9 e1) (Xc e2) (FL hu) _ _ _ _ h,λ h=>dm.YV0 (R9 e1) (Xc e2) (FL hu) _ _ _ _ h⟩,
    ⟨λ h=>pn.ZV0 (Xc e2) (R9 e1) (FL hu) _ _ _ _ h,λ h=>dm.ZV0 (Xc e2) (R9 e1) (FL hu) _ _ _ _ h⟩⟩
  |_=>exact ZA
 |_=>exact ZA
theorem N40{a b:PV}{v w:K0}(hu:Cu A)(g:J1 B A G s)(r:H3 G W0 a v)(r':H3 G W0 b w):Gm (λ _ _ t=>NT B A s v w t) (Vp a b) J5 R1:=by
 cases a using Q3 with
 |J0 i=>
  obtain⟨hi,O⟩:=r;cases b using Q3 with
  |J0 j=>obtain⟨hj,O⟩:=r';exact Y_ O (mJ0 hu g hi hj O O)
  |_=>exact Y_ (m':=Ab (P3 i) _) O ((M40 hu g hi O r').E5 λ _ _ _ _ _ x=>x.1)
 |_=>
  cases b using Q3 with
  |J0 j=>obtain⟨hj,O⟩:=r';exact Y_ (m':=Ab (P3 j) _) O ((M40 hu g hj O r).E5 λ _ _ _ _ _ x=>x.2)
  |_=>exact lJ0 hu g r r'
def InB(B:Bs)(A:C6)(s:D1)(v w:K0)(t:I1):Prop:=
 (∀{Q:K0->D1->Prop}{E},(∀k,Q (.O3 t) {s with B4:=X4+k})->V0 R2 A (ZN .In v w) Q E s)/\(∀{Q:K0->D1->Prop}{E},(∀k,Q (.O3 (!t)) {s with B4:=X4+k})->V0 R2 A (ZN .Cz v w) Q E s)
theorem O40{a b:PV}{v w:K0}(hu:Cu A)(g:J1 B A G s)(r:H3 G W0 a v)(r':H3 G W0 b w):Gm (λ _ _ t=>InB B A s v w t) (Yp a b) J5 R1:=by
 have D6:∀{xs:P0 VA}{d:VA}{k:C0},Qb xs<=k->k<=60->vL+1+xB (Qb xs) Ro<jP:=λ{xs d k} h1 h2=>by
  have:=Fu (Qb xs) Ro;have:vL+100<jP:=hu;exact ω57 ‹_› ‹_› ‹_› ‹_›
 cases b using Q3 with
 |Q0 l=>
  obtain⟨c,ws,k,O,_,e2,rl⟩:=r';refine fU λ ha=>fU λ hb=>?_;obtain⟨a0,a1⟩:=IT ha;obtain⟨b0,b1⟩:=IT hb;have x:=Gj LE a0 rl;have y:=Fj LE b0 r;obtain⟨as,ra⟩:=(DB0 e2 x.2).r;obtain⟨bs,rb⟩:=y.2.r;refine(H40 a l J5 R1 y.1 x.1).E5 λ R3 c5 t ts j8 e=>?_;rw[e,(kF ts x.1).2,(kF ts y.1).1];exact⟨λ h=>in_tuple_reads ra rb x.2.c y.2.c (D6 x.2.d a1) (h 0),λ h=>notIn_tuple_reads ra rb x.2.c y.2.c (D6 x.2.d a1) (h 0)⟩
 |J0 i=>
  obtain⟨hi,O⟩:=r';refine Y_ (m':=inO a (P3 i)) O ?_;have ox:=HA i hi;cases ex:P3 i with
  |M1 l=>
   rw[ex]at ox;obtain⟨vs,n,e1,rl⟩:=ox;refine fU λ ha=>fU λ hb=>?_;obtain⟨a0,a1⟩:=IT ha;obtain⟨b0,b1⟩:=IT hb;have x:=Gj LE a0 rl;have y:=Fj LE b0 r;obtain⟨as,ra⟩:=(wL e1 x.2).r;obtain⟨bs,rb⟩:=y.2.r;refine(H40 a l J5 R1 y.1 x.1).E5 λ R3 c5 t ts j8 e=>?_;rw[e,(kF ts x.1).2,(kF ts y.1).1];exact⟨λ h=>in_list_reads ra rb x.2.c y.2.c (D6 x.2.d a1) (h 0),λ h=>notIn_list_reads ra rb x.2.c y.2.c (D6 x.2.d a1) (h 0)⟩
  |H2 l=>
   rw[ex]at ox;obtain⟨V2,d1,r1⟩:=ox;have s1:=wM g hi (by rw[ex];simp);cases a using Q3 with
   |Z0 n=>
    obtain⟨h0,x,t,O,O⟩:=r;have both:∀b,(uF V2 x).AM=b->InB B A s (.Z0 x t) (.J0 (Y2 i)) b:=λ b e=>by
     subst e;exact⟨λ h=>wpAny_in_of fY s1 JA0 (h 1),λ h=>wpAny_notIn_of fY s1 JA0 (h 1)⟩
    show Gm _ (@jW PV (λ _=>M I1) (W1 R0) (λ _=>W1 I0) (I4 (vc x) l)) J5 R1;rcases MT h0 r1 with⟨q1,q2⟩|⟨p,u,q1,q2,_⟩
    ·rw[q1];exact r8 (both _ (by rw[q2];rfl))
    ·rw[q1];exact r8 (both _ (by rw[q2];rfl))
   |_=>exact ZA
  |_=>exact ZA
 |_=>exact ZA
def Yc:gG->jE
 |.eq=> .Eq|.ne=> .Bz|.f8=> .In|.rI=> .Cz|.iG=> .Is|.rE=> .tm|.gt=> .Gt|.lt=> .Lt|.ge=> .Yg
theorem P40{m:M I1}{R:I1->Prop}(h:Gm (λ _ _ t=>R t) m J5 R1):Gm (λ _ _ t=>R (!t)) (M.SX0 m) J5 R1:=af h λ R3 c5 a ts j8 r=>r8 (by rw[s90];exact r)
theorem nJ0{op:gG}{a b:PV}{v w:K0}(hu:Cu A)(g:J1 B A G s)(r:H3 G W0 a v)(r':H3 G W0 b w)(hn:(op=.iG\/op=.rE)->w=.H0):
  V4 B RB F A (S1 op a b) (ZN (Yc op) v w) G s:=by
 cases op using gG.n8 with
 |eq=>exact V4.GX0 g (N40 hu g r r') λ R3 c5 t ts e Q E k=>e.1 (k _ O)
 |ne=>exact V4.GX0 g (P40 (N40 hu g r r')) λ R3 c5 t ts e Q E k=>e.2 (k _ (by rw[s90]))
 |f8=>
  intro P X M0;obtain⟨R3,c5,t,ts,j8,rr,p⟩:=O40 hu g r r' LE P X M0;refine rr.1 λ k=>?_;obtain⟨g1,C2⟩:=g.upT ts j8;obtain⟨g2,I2⟩:=T00 (X4+k);exact .at (R:=RB) ((zH C2).U2 (zH I2)) g2 O p
 |rI=>
  intro P X M0;obtain⟨R3,c5,t,ts,j8,rr,p⟩:=P40 (O40 hu g r r') LE P X M0;refine rr.2 λ k=>?_;obtain⟨g1,C2⟩:=g.upT ts j8;obtain⟨g2,I2⟩:=T00 (X4+k);exact .at (R:=RB) ((zH C2).U2 (zH I2)) g2 (by rw[s90]) p
 |iG=>have e:=hn (.S2 O);subst e;exact jJ0 g r
 |rE=>have e:=hn (.L2 O);subst e;exact kJ0 g r
 |gt=>exact jt (.S2 ⟨O,O⟩) g r r'
 |lt=>exact jt (.L2 (.S2 ⟨O,O⟩)) g r r'
 |ge=>exact jt (.L2 (.L2 ⟨O,O⟩)) g r r'
end
section
section
variable{B:Bs}{A:Around}{G:Gh}{s:Shared}{F:Addr->Prop}
theorem J1.Du(g:J1 B A G s):VH.hO<=P2:=B.Eg W0 lE λ b o e h1 h2 h3=>VB b o e h1 h2 h3
theorem vA(h:O1)(ob:D4):∀b o,C3 b=E0 o->(rN ob).X5 b=E0 o:=λ b o e=>T6 _ e
theorem J1.Q40(g:J1 B A G s)(ob:D4)(tk:P6):J1 B A G {s with B3:=G8 ob,B4:=tk}/\A3 B N2 G s G {s with B3:=G8 ob,B4:=tk}:=g.vB (vA _ _)
theorem J1.y6{o:AO}{ob:D4}{tk:P6}(g:J1 B A G s)(ho:zE B (r7 o P2) (G8 ob) P2 o):
  J1 B A (r7 o P2) {s with B3:=G8 ob,B4:=tk}/\A3 B N2 G s (r7 o P2) {s with B3:=G8 ob,B4:=tk}:=
 g.SB (vA _ _) (TE (B8 _)) g.Du ho
theorem R40(h:O1)(ob:D4){av:P0 H1}:CC av h (rN ob):=λ b vs k _ e=>vA _ _ _ _ e
theorem A4.grow{o:AO}{ob:D4}{a:H1}{p:PV}{v:P0 K0}(x:A4 G W0 p v):A4 (r7 o a) (G8 ob) p v:=y00 (qU o a) (R40 _ _)
theorem J1.dR{l:PV}{vs:P0 K0}{tk:P6}{k:C0}(g:J1 B A G s)(r:A4 G W0 l vs):
  J1 B A (r7 (.M1 l) P2) {s with B3:=G8 (qB vs k),B4:=tk}/\A3 B N2 G s (r7 (.M1 l) P2) {s with B3:=G8 (qB vs k),B4:=tk}/\
   H3 (r7 (.M1 l) P2) (G8 (qB vs k)) (.J0 J3) (.J0 P2):=by
 have h:=g.y6 (o:=.M1 l) (ob:=qB vs k) (tk:=tk) ⟨vs,k,DA _ O,r.grow⟩;exact⟨h.1,h.2,TD _,H6 x6 (y3 O).Z3⟩
theorem J1.S40{l:PV}{vs:P0 K0}{tk:P6}{k:C0}(g:J1 B A G s)(r:A4 G W0 l vs):
  J1 B A G {s with B3:=G8 (F8 vs k),B4:=tk}/\A3 B N2 G s G {s with B3:=G8 (F8 vs k),B4:=tk}/\H3 G (G8 (F8 vs k)) (.Q0 l) (.J0 P2):=by
 have h:=g.Q40 (F8 vs k) tk;refine⟨h.1,h.2,P2,vs,k,O,λ q=>?_,DA _ O,WI (.M5 G) (R40 _ _)⟩;obtain⟨o,e⟩:=(DE _ q).2;rw[TE (B8 _)]at e;contradiction
theorem oJ0(m a r:PV):nE m (.A0 a r)=.A0 a (nE m r):=O
section
variable{h:Heap}{l m:PV}{vs ws:List Value}
theorem Eu(r:A4 G h l vs):∀{n p},cJ l n=E0 p->∃u,vs[n]?=E0 u/\H3 G h p u:=by
 refine yG (C:=λ l vs=>∀{n p},cJ l n=E0 p->∃u,vs[n]?=E0 u/\H3 G h p u) (λ e=>nomatch e) (λ a r v q hv hr ih n p e=>?_) r;induction n using TL with
 |K9=>obtain O:=I3 e;exact⟨v,O,hv⟩
 |J9 n=>exact ih e
theorem Zc(r:A4 G h l vs)(r':A4 G h m ws):A4 G h (nE m l) (vs++ws):=
 yG (C:=λ l vs=>A4 G h (nE m l) (vs++ws)) r' (λ a r v q hv hr ih=>⟨v,q++ws,O,hv,ih⟩) r
theorem pJ0{a:PV}{v:K0}(r:A4 G h l vs)(hv:H3 G h a v):A4 G h (wR a l) (vs++[v]):=Zc r ⟨v,[],O,hv,O⟩
theorem qJ0(r:A4 G h l vs):∀{m ws},A4 G h m ws->A4 G h (YO l m) (B10++ws):=by
 refine yG (C:=λ l vs=>∀{m ws},A4 G h m ws->A4 G h (YO l m) (B10++ws)) (λ r=>r) (λ a r v q hv hr ih m ws r'=>?_) r;have:=ih (m:=.A0 a m) (ws:=v::ws) ⟨v,ws,O,hv,r'⟩;rw[D90,P0.append_assoc];exact J2
theorem Lj(r:A4 G h l vs):A4 G h (YO l .B0) B10:=by
 have:=qJ0 (m:=.B0) (ws:=[]) r O
 rwa [sv]at J2
theorem rJ0(r:A4 G h l vs):∀n,A4 G h (Np l n) (bf n):=by
 intro n;induction n generalizing l vs with
 |K9=>cases l using Q3<;>exact r
 |J9 n ih=>
  cases l using Q3 with
  |B0=>cases r;exact O
  |A0 a q=>obtain⟨v,w,e,hv,hr⟩:=r;subst e;exact ih hr
  |_=>exact YI
theorem sJ0(r:A4 G h l vs):∀n,A4 G h (Pp l n) (vs.VJ n):=by
 refine yG (C:=λ l vs=>∀n,A4 G h (Pp l n) (vs.VJ n)) (λ n=>by simp;exact O) (λ a r v q hv hr ih n=>?_) r;induction n using TL with
 |K9=>exact O
 |J9 n=>exact⟨v,_,O,hv,ih n⟩
theorem tJ0(r:A4 G h l vs)(a b:C0):A4 G h (Ja l a b) ((bf a).VJ (b-a)):=sJ0 (rJ0 r a) _
theorem uJ0(r:A4 G h l vs){q:PV}{a:PV}(e:Ve l=E0 (q,a)):∃ws v,vs=ws++[v]/\A4 G h q ws/\H3 G h a v:=by
 have rr:=Lj r;unfold Ve at e;cases hx:YO l .B0 with
 |A0 b t=>
  rw[hx]at e rr;cases e;obtain⟨v,w,e2,hv,hr⟩:=rr;refine⟨w.YL,v,?_,Lj hr,hv⟩;have:=H6 P0.YL e2;rw[P0.reverse_reverse]at J2;rw[J2,D90]
 |_=>rw[hx]at e;contradiction
theorem vJ0(r:A4 G h l vs){p:PV}{v:K0}(hv:H3 G h p v):∀{n q},zU l n p=E0 q->n<R7/\A4 G h q (vs.set n v):=by
 refine yG (C:=λ l vs=>∀{n q},zU l n p=E0 q->n<R7/\A4 G h q (vs.set n v)) (λ{n q} e=>?_) (λ a r u w hu hr ih n q e=>?_) r
 ·cases n using TL<;>contradiction
 ·induction n using TL with
  |K9=>obtain O:=I3 e;exact⟨C0.zero_lt_succ _,v,w,O,hv,hr⟩
  |J9 n=>
   change(zU r n p).Y4 (QB0 a)=E0 q at e;cases hx:zU r n p with
   |H0=>rw[hx]at e;contradiction
   |E0 t=>
    rw[hx]at e;obtain O:=I3 e;obtain⟨k1,k2⟩:=ih hx;exact⟨pt k1,u,_,O,hu,k2⟩
end
theorem OT{h:O1}{l:PV}{vs:P0 K0}(r:A4 G h l vs)(e:I5 l=I0):R7<=60:=by
 rw[Vc r];exact u6 e
theorem Gu{h:O1}{l:PV}{vs:P0 (u0×K0)}(r:U8 G h l vs)(e:I5 l=I0):R7<=60:=by
 rw[L40 r];exact u6 e
end
end
section
open PyProof.Rows
variable{B:Bs}{A:Around}{G:Gh}{s:Shared}{F:Addr->Prop}
noncomputable abbrev RT:Gh->O1->I1->I1->Prop:=λ _ _ a b=>b=a
theorem jU{α β:Type}{R:Gh->O1->α->β->Prop}{P:α->K1->Prop}{a:α}{b:β}(g:J1 B A G s)(k:P6)(r:R G W0 a b)(p:P a R1):Po B R F A G s P b {s with B4:=k}:=
 let⟨g',st⟩:=g.B4 k;.at (zH st) g' r p
theorem oO{h:O1}{a:H1}{vs:P0 K0}{n:C0}(e:C3 a=E0 (F8 vs n)):Nz h a OB:=⟨_,e,O,_,O⟩
theorem xv{vs:P0 K0}{b:I1}(h:b=JE (R7=0)):(!OB.jL)=!b:=by
 subst h;cases vs using i5<;>simp
theorem Mj{p:PV}{v:K0}(g:J1 B A G s)(r:H3 G W0 p v):V4 B RT F A (lC p) (kA0 v) G s:=by
 intro P X M0;cases p using Q3 with
 |H0=>
  cases r;exact truthy_none (.EB (R:=RT) g O M0)
 |O3 b=>cases r;exact bj (.EB (R:=RT) g O M0)
 |Q0 l=>
  symm;obtain⟨a,vs,k,O,_,e,rl⟩:=r;change((bif I5 l then W1 (!(JA l))else F2 8) R1).P1 P X at M0;obtain⟨hs,M0⟩:=IG M0;have:=OT rl hs;ext;refine truthy_tuple (oO e) (by simp;omega) ?_;rw[xv (Jj rl)];exact jU (R:=RT) g _ O M0
 |J0 i=>
  symm;obtain⟨hi,O⟩:=r;change((y5 7 (Bb (P3 i))) R1).P1 P X at M0;obtain⟨b,hb,hp⟩:=u9 M0;have ob:=HA i hi;cases ex:P3 i with
  |M1 l=>
   rw[ex]at ob hb;obtain⟨vs,n,e1,r1⟩:=ob;change(bif I5 l then E0 (!(JA l))else H0)=E0 b at hb;obtain⟨hs,hb⟩:=UC hb;obtain O:=I3 hb;have:=OT r1 hs;ext;refine wpAny_truthy_list (R9 e1) (by simp;omega) ?_;rw[xv (Jj r1)];exact jU (R:=RT) g _ O hp
  |H2 l=>
   rw[ex]at ob hb;obtain⟨V2,d1,r1⟩:=ob;change(bif I5 l then E0 (!(JA l))else H0)=E0 b at hb;obtain⟨hs,hb⟩:=UC hb;obtain O:=I3 hb;have:=Gu r1 hs;ext;refine wpAny_truthy_dict (wM g hi (by rw[ex];simp)) d1 (by omega) ?_;have e2:(!V2.jL)=!JA l:=by rw[yt r1];cases V2 using i5<;>simp
   rw[e2];exact jU (R:=RT) g _ O hp
  |_=>
   ext;rw[ex]at hb;contradiction
 |_=>exact C4
theorem wJ0(ok:lA J5 R1){h:O1}{i:C0}(hi:i<UB){c:PV}(hc:vN (G.X8 (Ha i))=E0 c){v:K0}(r:H3 G h (.ty i) v):H3 G h (.Q0 c) v:=by
 symm;have d:=uJ ok hi;have X9:=nN _ d.1;obtain⟨_,r⟩:=r;rw[<-d.2]at r;have up:∀(p:PV){v:K0},rJ F5 p h v->H3 G h p v:=λ p{v} x=>Ys x;cases hx:G.X8 (Ha i)with
 |RC=>
  ext;rw[hx]at hc;contradiction
 |al=>
  ext;rw[hx]at hc;contradiction
 |mA k=>
  rw[hx]at hc X9;obtain O:=I3 hc;obtain⟨h1,h2⟩:=X9;have:k=0\/k=1\/k=2:=by exact ω9 _ ‹_›
  rcases J2 with O|O|O
  ·have e:J5 (Ha i)=.u8:=mV (by exact Ka ‹_› O) h2;ext;rw[e]at r;exact up (.Q0 (QS 0)) r
  ·have e:J5 (Ha i)=.yE:=mV (by exact Ka ‹_› O) h2;ext;rw[e]at r;exact up (.Q0 (QS 1)) r
  ·have e:J5 (Ha i)=.X:=mV (by exact Ka ‹_› O) h2;ext;rw[e]at r;exact up (.Q0 (QS 2)) r
 |Y8 j=>
  rw[hx]at hc X9;obtain O:=I3 hc;rw[X9.2]at r;obtain⟨a,vs,k,e,z,hg,v1,q1,e1,r1,v2,q2,e2,r2,r3⟩:=r;ext;subst e1;subst e2;cases r3;exact⟨a,_,k,e,z,hg,v1,_,O,up (.Z0 BV) r1,v2,_,O,⟨X9.1,r2⟩,O⟩
 |Z8 j=>
  rw[hx]at hc X9;obtain O:=I3 hc;rw[X9.2]at r;obtain⟨a,vs,k,e,z,hg,v1,q1,e1,r1,v2,q2,e2,r2,v3,q3,e3,r3,v4,q4,e4,r4,r5⟩:=r;ext;subst e1;subst e2;subst e3;subst e4;cases r5;obtain⟨a',rC,k',e',z',gX,v5,q5,e5,r5,r6⟩:=r4;subst e5;cases r6;exact⟨a,_,k,e,z,hg,v1,_,O,up (.Z0 CV) r1,v2,_,O,up (.Z0 nS) r2,v3,_,O,up (.Q0 .B0) r3,v4,_,O,⟨a',_,k',e',z',gX,v5,_,O,⟨X9.1,r5⟩,O⟩,O⟩
theorem T40{n Z5:C0}(h:n<Z5):B_ (n:B2) Z5=E0 n:=by
 unfold B_;have:¬((n:B2)<0):=by omega
 simp only[J2,D_];rw[y3 (by simp;exact jT0 ‹_›)];simp
theorem lU0{n Z5:C0}(h:n<Z5):B_ (eW n) Z5=E0 (Z5-(n+1)):=by
 unfold B_;have h1:(eW n)<0:=B2.negSucc_lt_zero n;simp only[h1,sW];rw[y3 (by simp;omega)];congr 1;omega
theorem xJ0{vs:P0 K0}{n:C0}{u:K0}(h:B10[n]?=E0 u):n<R7/\vs[R7-(n+1)]?=E0 u:=by
 have hn:n<R7:=by
  have:=(cq h).1;simpa using J2
 refine⟨hn,?_⟩;rw[P0.getElem?_reverse hn]at h;rw[<-h];congr 1;exact ω17
theorem U40{h:O1}{l:PV}{vs:P0 K0}(r:A4 G h l vs){i:B2}{p:PV}(e:RS l i=E0 p):
  ∃u j,vs[j]?=E0 u/\H3 G h p u/\B_ i R7=E0 j/\ -(2^63)<=i/\i<2^63:=by
 cases i using ZL with
 |O4 n=>
  symm;change(bif T9 n 60 then cJ l n else H0)=E0 p at e;obtain⟨hb,e⟩:=UC e;have:=u6 hb;obtain⟨u,hu,ru⟩:=Eu r e;have hn:=(cq hu).1;ext;exact⟨u,n,hu,ru,T40 hn,by rw[VZ];exact PL _,by rw[VZ];omega⟩
 |PB n=>
  symm;change(bif T9 n 60 then cJ (YO l .B0) n else H0)=E0 p at e;obtain⟨hb,e⟩:=UC e;have:=u6 hb;obtain⟨u,hu,ru⟩:=Eu (Lj r) e;obtain⟨hn,hu'⟩:=xJ0 hu;ext;exact⟨u,_,hu',ru,lU0 hn,by omega,by omega⟩
def gY(B:Bs)(A:C6)(o i:K0)(Q:K0->D1->Prop)(E:K0->D1->Prop)(s:D1):Prop:=∃T id,fC o T/\OA (.U0 T) "__getitem__"=L4 (E0 (.Z4 id))/\V0 R2 A (eR o i) Q E s
theorem yJ0{l:H1}{vs:P0 K0}{n:C0}{i:B2}{t:P6}{j:C0}{x:K0}{Q:K0->D1->Prop}{E}(e:F3 l=E0 (qB vs n))(h0: -(2^63)<=i)(h1:i<2^63)
  (hj:B_ i R7=E0 j)(hx:vs[j]?=E0 x)(h:Q x s):V0 R2 A (eR (.J0 l) (.j0 i t)) Q E s:=by
 unfold B_ at hj;by_cases hi:i<0
 ·simp only[hi,sW]at hj
  split at hj
  ·rename_i hc;simp only[N5,decide_eq_true_eq]at hc;obtain O:=I3 hj;exact wpAny_getItem_list_neg (R9 e) hi (by simp;omega) h0 (by simpa using hx) h
  ·contradiction
 ·simp only[hi,D_]at hj
  split at hj
  ·obtain O:=I3 hj;exact ET0 (R9 e) (by exact uk ‹_›) h1 (by simpa using hx) h
  ·contradiction
theorem Hu{o i:PV}{v w:K0}(g:J1 B A G s)(r:H3 G W0 o v)(r':H3 G W0 i w){P:PV->K1->Prop}{X:C0->K1->Prop}(M0:(EM o i R1).P1 P X):
  gY B A v w (Po B RV F A G s P) (Px B F A G s X) s:=by
 symm;have Q0:∀{l:PV}{k:B2}{t:P6}{v:K0}{p:PV},H3 G W0 (.Q0 l) v->RS l k=E0 p->P p R1->gY B A v (.j0 k t) (Po B RV F A G s P) (Px B F A G s X) s:=λ{l k t v p} r hp hP=>by
  symm;obtain⟨a,vs,n,O,_,e,rl⟩:=r;obtain⟨u,j,hu,ru,hj,h0,h1⟩:=U40 rl hp;ext;exact⟨_,_,(oO e).AD,P80,QU0 (oO e) h0 h1 (by simpa using hj) (by simpa using hu) (.EB g ru hP)⟩
 cases o using Q3 with
 |Q0 l=>
  cases i using Q3 with
  |j0 k=>
   obtain⟨t,O⟩:=r';obtain⟨p,hp,hP⟩:=u9 M0;ext;exact Q0 r hp hP
  |_=>exact C4
 |J0 j=>
  obtain⟨hj,O⟩:=r;change(y5 27 (zp i (P3 j)) R1).P1 P X at M0;obtain⟨p,hp,hP⟩:=u9 M0;have ob:=HA j hj;cases ex:P3 j with
  |M1 l=>
   rw[ex]at ob hp;obtain⟨vs,n,e1,r1⟩:=ob;cases i using Q3 with
   |j0 k=>
    obtain⟨t,O⟩:=r';obtain⟨u,j,hu,ru,hj,h0,h1⟩:=U40 r1 hp;ext;exact⟨_,_,(R9 e1).AD,vr,yJ0 e1 h0 h1 hj hu (.EB g ru hP)⟩
   |_=>contradiction
  |H2 l=>
   rw[ex]at ob hp;obtain⟨V2,d1,r1⟩:=ob;cases i using Q3 with
   |Z0 n=>
    obtain⟨h0,x,t,O,O⟩:=r';rcases MT h0 r1 with⟨q1,q2⟩|⟨p',u,q1,q2,ru⟩
    ·change I4 (vc x) l=E0 p at hp;ext;rw[q1]at hp;contradiction
    ·change I4 (vc x) l=E0 p at hp;rw[q1]at hp;obtain O:=I3 hp;ext;exact⟨_,_,d1.AD,slot_dict_getitem.e9,wpAny_getItem_of fY JA0 q2 (jU (R:=RV) g _ ru hP)⟩
   |_=>contradiction
  |_=>
   ext;rw[ex]at hp;contradiction
 |ty j=>
  have hj:=r.1;have full:∀{k:B2}{t:P6}{p:PV},w=.j0 k t->((vN (G.X8 (Ha j))).S6 λ c=>RS c k)=E0 p->P p R1->gY B A v w (Po B RV F A G s P) (Px B F A G s X) s:=λ{k t p} ew hp hP=>by
   symm;subst ew;cases hc:vN (G.X8 (Ha j))with
   |H0=>
    ext;rw[hc]at hp;contradiction
   |E0 c=>
    rw[hc]at hp;ext;exact Q0 (wJ0 LE hj hc r) hp hP
  cases i using Q3 with
  |j0 k=>
   obtain⟨t,O⟩:=r';cases k using ZL with
   |O4 n=>
    ext;induction n using TL with
    |K9=>
     change P (.pC j) R1 at M0;obtain⟨_,r⟩:=r;have hd:∃a vs k,v=.J0 a/\F3 a=E0 (F8 vs k)/\∃u,vs[0]?=E0 u/\rJ F5 (.Z0 (ID (J5 j).hd)) W0 u:=by
      revert r;cases J5 j<;>(intro r;obtain⟨a,vs,k,e,z,hg,v1,q1,e1,r1,_⟩:=r;subst e1;exact⟨a,_,k,e,hg,v1,O,r1⟩)
     obtain⟨a,vs,k,O,e,u,hu,ru⟩:=hd;have hn:=(cq hu).1;exact⟨_,_,(oO e).AD,P80,QU0 (oO e) (by decide) (by decide) (by simpa using T40 hn) (by simpa using hu) (.EB (R:=RV) (a:=.pC j) g ⟨hj,ru⟩ M0)⟩
    |J9 n=>
     obtain⟨p,hp,hP⟩:=u9 (w:=28) M0;exact full O hp hP
   |PB n=>
    obtain⟨p,hp,hP⟩:=u9 (w:=28) M0;ext;exact full O hp hP
  |_=>exact C4
 |_=>exact C4
end
section
open PyProof.Rows
variable{B:Bs}{A:Around}{G:Gh}{s:Shared}{F:Addr->Prop}
theorem ZA0{h:O1}{p:PV}{v:K0}(r:H3 G h p v){n d a:C0}(e:Eb n d p=E0 a):∃o,kR v o/\a=o.KB d (RF n):=by
 cases p using Q3 with
 |H0=>cases r;obtain O:=I3 e;exact⟨H0,.H0,O⟩
 |j0 i=>
  obtain⟨t,O⟩:=r;refine⟨E0 i,.j0 i t,?_⟩;cases i using ZL with
  |O4 k=>
   change E0 (bif T9 k n then k else n)=E0 a at e;show a=RF n (GA k);rw[VZ,clipAt_nat];cases hb:T9 k n with
   |I0=>rw[hb]at e;obtain O:=I3 e;have:=u6 hb;show k=_;exact ω65 ‹_›
   |R0=>
    rw[hb]at e;obtain O:=I3 e;have:¬k<=n:=λ q=>by rw[f80 q]at hb;contradiction
    show n=_;exact ω70 ‹_›
  |PB k=>
   obtain O:=I3 e;show n-(k+1)=RF n (eW k);rw[show eW k= -((k+1:C0):B2) by omega,clipAt_neg _ _ (by exact u6 O)]
 |_=>contradiction
def GL(vs:P0 K0)(a b:C0):P0 K0:=(bf a).VJ (b-a)
theorem zJ0{l sl:H1}{vs:P0 K0}{n:C0}{vl vu:K0}{lo hi:Q1 B2}{Q:K0->D1->Prop}{E}(e:F3 l=E0 (qB vs n))(hs:tj sl vl vu .H0)(pl:kR vl lo)(pu:kR vu hi)(hz:R7<=60)
  (h:Q (.J0 P2) {s with B3:=G8 (qB (GL vs (g_ 0 (RF R7)) (df R7 (RF R7))) 0)}):V0 R2 A (eR (.J0 l) (.J0 sl)) Q E s:=by
 refine jS0 (R9 e) hs pl pu .H0 (by trivial) ?_ (by simp;exact X6 hz (by decide));rw[slicePick_plain];unfold GL at h;simpa using h
theorem AK0{sl:H1}{vl vu:K0}{lo hi:Q1 B2}{n:C0}{Q:B2×B2×C0->D1->Prop}{E}(hs:tj sl vl vu .H0)(pl:kR vl lo)(pu:kR vu hi)
  (h:Q (((g_ 0 (RF n):C0):B2),1,df n (RF n)-g_ 0 (RF n)) s):V0 R2 A (ZS0.sliceApplied (.J0 sl) (L4 (n:B2))) Q E s:=by
 obtain⟨os,dg,YF,uo⟩:=id hs;have part:∀{v:K0}{o:Q1 B2}{Q:Q1 B2->D1->Prop}{s},kR v o->Q o s->V0 R2 A (ZS0.slicePartIndex v) Q E s:=λ p h=>by
  cases p with
  |H0=>exact xT0 h
  |j0 i t=>exact slicePart_int h
 refine S0 (S0 (N7 dg uo (x:=vl) O (S0 (N7 dg uo (x:=vu) O (S0 (N7 dg uo (x:=.H0) O (E2 ?_)))))));refine S0 (xT0 ?_);show V0 _ _ (if((1:B2)==0)=I0 then _ else _) _ _ s;refine S0 (part pl (S0 (part pu (S0 (E2 ?_)))));show V0 _ _ (match Q80 lo hi 1 (n:B2)with|(lo,hi)=>L4 (lo,(1:B2),dq lo hi 1)) _ _ s;have cl:∀v:B2,(if v<0 then Zo (v+n) 0 else xB v n)=((RF n v:C0):B2):=λ v=>by
  rw[FV0];split<;>(first|exact ω11 ‹_›|exact ω36 ‹_›)
 have adj:Q80 lo hi 1 (n:B2)=(((g_ 0 (RF n):C0):B2),((df n (RF n):C0):B2)):=by
  unfold Q80;have h1:¬((1:B2)<0):=by omega
  simp -w4 only[h1,D_];cases lo using i9<;>cases hi using i9<;>simp -w4 only[Q1.KB,cl]<;>rfl
 have places:∀a b:C0,dq (a:B2) (b:B2) 1=b-a:=λ a b=>by
  unfold dq;have h1:(1:B2)>0:=by exact PL _
  simp only[h1,sW,B2.ediv_one]
  split<;>omega
 rw[adj];show V0 _ _ (L4 (_,(1:B2),dq _ _ 1)) _ _ s;rw[places];exact E2 h
theorem BK0(n:C0)(i:B2):RF n i<=n:=by have:=FV0 n i;exact ω26 ‹_›
theorem CK0{t sl:H1}{vs:P0 K0}{n:C0}{vl vu:K0}{lo hi:Q1 B2}{Q:K0->D1->Prop}{E}(e:F3 t=E0 (F8 vs n))(hs:tj sl vl vu .H0)(pl:kR vl lo)(pu:kR vu hi)(hz:R7<=60)
  (h1:GL vs (g_ 0 (RF R7)) (df R7 (RF R7))=vs->Q (.J0 t) s)
  (h2:Q (.J0 P2) {s with B3:=G8 (F8 (GL vs (g_ 0 (RF R7)) (df R7 (RF R7))) 0)}):V0 R2 A (eR (.J0 t) (.J0 sl)) Q E s:=by
 generalize ha:g_ 0 (RF R7)=a at h1 h2;generalize hb:df R7 (RF R7)=b at h1 h2;have hbn:b<=R7:=by rw[<-hb];cases hi using i9<;>simp[Q1.KB,BK0]
 have Z7:sizeOk (.W5 (GL vs a b).P8 0):=by
  show(GL vs a b).P8.L9<=aA;unfold GL;simp;have:aA=16777216:=O;exact ω16 ‹_› ‹_›
 obtain⟨os,dg,YF,uo⟩:=id hs;have hTs:fC (.J0 sl) "slice":=⟨os,dg,YF⟩;have ht:=oO e;unfold eR
 try with_reducible refine A8 ?_
 first|refine S0 (E2 ?_)|skip
 refine S0 (PT0 n00 (by decide) ?_);refine S0 (lF (W2:=EA "__getitem__") n00 cS0
  (TC cS0 n00 entry_tuple_getitem ?_ (args_tuple_getitem _ _)))
 show V0 _ _ (G80.tupleItemsOf (.J0 t)>>=_) _ _ s;refine S0 (RU0 ht ?_);refine S0 (OR hTs ?_);have hsz2:(vs.GU:B2)=(R7:B2):=by trivial
 refine S0 (AK0 hs pl pu ?_);rw[ha,hb];show V0 _ _ (if((a:B2)==0&&(1:B2)==1&&(b-a)==vs.GU)=I0 then _ else _) _ _ s;by_cases hw:((a:B2)==0&&(1:B2)==1&&(b-a)==vs.GU)=I0
 ·rw[y3 hw];have Iu:a=0/\b-a=R7:=by simpa using hw
  have hb':b=R7:=by have:=Iu.1;have:=Iu.2;omega
  have DK0:GL vs a b=vs:=by unfold GL;rw[Iu.1,hb'];simp
  have q:=h1 DK0;refine S0 (m:=G80.mU0 (.J0 t)) ?_;refine S0 (OR n00 (E2 ?_));exact S0 (RP (E2 ⟨_,O,E2 q⟩))
 ·rw[w3 hw];have pick:((P0.qm (b-a)).UV λ(k:C0)=>OB[((a:B2)+(k:B2)*1).qR]?).P8=(GL vs a b).P8:=by
   have e1:(λ(k:C0)=>OB[((a:B2)+(k:B2)*1).qR]?)=λ k=>OB[a+k]?:=by
    funext k
    have:((a:B2)+(k:B2)*1).qR=a+k:=by exact(xb _ _ _).Z3
    rw[J2]
   rw[e1];have:=pick_run OB a (b-a);rw[P0.filterMap_map]at J2;have e2:((λ x=>OB[x]?)∘λ x=>a+x)=λ k=>OB[a+k]?:=O;rw[e2]at J2;rw[J2];rfl
  rw[pick];first
   |exact S0 (m:=TZ _) (HH (E2 ⟨_,O,E2 h2⟩) Z7)
   |exact S0 (m:=TZ _) (HH (S0 (E2 (E2 ⟨_,O,E2 h2⟩))) Z7)
   |exact S0 (S0 (m:=TZ _) (HH (E2 (E2 ⟨_,O,E2 h2⟩)) Z7))
   |exact S0 (S0 (m:=TZ _) (HH (E2 ⟨_,O,E2 h2⟩) Z7))
theorem EK0{h:O1}{l:PV}{vs:P0 K0}(r:A4 G h l vs)(a b:C0):A4 G h (Ja l a b) (GL vs a b):=tJ0 r a b
theorem V40{h:O1}{l lo hi:PV}{vs:P0 K0}{v w:K0}{q:PV}(r:A4 G h l vs)(rl:H3 G h lo v)(rh:H3 G h hi w)(e:Eh l lo hi=E0 q):
  R7<=60/\∃o1 o2,kR v o1/\kR w o2/\A4 G h q (GL vs (o1.KB 0 (RF R7)) (o2.KB R7 (RF R7))):=by
 symm;unfold Eh at e;obtain⟨hs,e⟩:=UC e;have hz:=OT r hs;have hl:=Vc r;cases h1:Eb (Z5 l) 0 lo with
 |H0=>
  ext;rw[h1]at e;contradiction
 |E0 a=>
  rw[h1]at e;cases h2:Eb (Z5 l) (Z5 l) hi with
  |H0=>
   ext;rw[h2]at e;contradiction
  |E0 b=>
   rw[h2]at e;obtain O:=I3 e;obtain⟨o1,p1,e1⟩:=ZA0 rl h1;obtain⟨o2,p2,e2⟩:=ZA0 rh h2;rw[<-hl]at e1 e2;ext;exact⟨hz,o1,o2,p1,p2,e1▸e2▸EK0 r a b⟩
theorem FK0{o lo hi:PV}{v vl vu:K0}{sl:H1}(g:J1 B A G s)(r:H3 G W0 o v)(rl:H3 G W0 lo vl)(rh:H3 G W0 hi vu)(hs:tj sl vl vu .H0){P:PV->K1->Prop}{X:C0->K1->Prop}(M0:(iE o lo hi R1).P1 P X):
  gY B A v (.J0 sl) (Po B RV F A G s P) (Px B F A G s X) s:=by
 cases o using Q3 with
 |Q0 l=>
  symm;obtain⟨a,vs,n,O,z,e,PT⟩:=r;obtain⟨q,hq,hP⟩:=u9 (j6 M0);obtain⟨hz,o1,o2,p1,p2,rq⟩:=V40 PT rl rh hq;have hP:P (.Q0 q) R1:=hP;ext;refine⟨_,_,(oO e).AD,P80,CK0 e hs p1 p2 hz (λ hw=>?_) ?_⟩
  ·rw[hw]at rq;exact .EB (R:=RV) (a:=.Q0 q) g ⟨a,vs,n,O,z,e,rq⟩ hP
  ·obtain⟨g',st,rt⟩:=g.S40 (tk:=X4) (k:=0) rq;exact .at (R:=RV) (zH st) g' rt hP
 |J0 j=>
  symm;obtain⟨hj,O⟩:=r;change(F1 (y5 32 (S10 lo hi (P3 j))) (λ r=>V9 (.M1 r)) R1).P1 P X at M0;obtain⟨q,hq,hP⟩:=u9 (j6 M0);have ob:=HA j hj;cases ex:P3 j with
  |M1 l=>
   rw[ex]at ob hq;obtain⟨vs,n,e,PT⟩:=ob;obtain⟨hz,o1,o2,p1,p2,rq⟩:=V40 PT rl rh hq;ext;refine⟨_,_,(R9 e).AD,vr,zJ0 e hs p1 p2 hz ?_⟩;obtain⟨g',st,rt⟩:=g.dR (tk:=X4) (k:=0) rq;exact .at (R:=RV) (zH st) g' rt hP
  |_=>
   ext;rw[ex]at hq;contradiction
 |_=>exact C4
theorem GK0{o:PV}{v:K0}{sl:H1}{t:P6}(g:J1 B A G s)(r:H3 G W0 o v)(hs:tj sl .H0 .H0 (.j0 (-1) t)){P:PV->K1->Prop}{X:C0->K1->Prop}(M0:(BQ o R1).P1 P X):
  gY B A v (.J0 sl) (Po B RV F A G s P) (Px B F A G s X) s:=by
 cases o using Q3 with
 |J0 j=>
  obtain⟨hj,O⟩:=r;change(F1 (y5 33 (T10 (P3 j))) (λ r=>V9 (.M1 (YO r .B0))) R1).P1 P X at M0;obtain⟨q,hq,hP⟩:=u9 (j6 M0);have ob:=HA j hj;cases ex:P3 j with
  |M1 l=>
   rw[ex]at ob hq;obtain⟨vs,n,e,PT⟩:=ob;change(bif I5 l then E0 l else H0)=E0 q at hq;obtain⟨OD,hq⟩:=UC hq;obtain O:=I3 hq;have hz:=OT PT OD;refine⟨_,_,(R9 e).AD,vr,jS0 (R9 e) hs .H0 .H0 (.j0 (-1) t) (by trivial) ?_ (by simp;exact X6 hz (by decide))⟩;rw[krv_pick];obtain⟨g',st,rt⟩:=g.dR (tk:=X4) (k:=0) (Lj PT);have:=wN (R:=RV) (zH (F:=F) st) g' rt hP;simpa using J2
  |_=>rw[ex]at hq;contradiction
 |_=>exact C4
end
section
open PyProof.Rows
variable{B:Bs}{A:Around}{G:Gh}{s:Shared}{F:Addr->Prop}
theorem HK0:∀l:P0 C0,c7 l≠0->2^KJ<=c7 l:=by
 intro l;induction l with
 |B0=>exact λ _=>B8 _
 |A0 c l ih=>
  intro h;have ht:=aY (c:=c) (n:=c7 l) h;have ih:=ih ht;change sC c (c7 l)≠0 at h;show 2^(KJ+1)<=sC c (c7 l);unfold sC at h ⊢;rw[DT ht,NH]at h ⊢;cases hb:Y6 c 1114112 with
  |R0=>rw[hb]at h;exact U3 O h
  |I0=>
   show _<=c+1+1114113*c7 l;exact ω42 ‹_› O
theorem Nj{h:O1}{p:PV}{v:K0}(r:H3 G h p v){n:C0}(e:XM p=E0 n):∃x t,v=.Z0 x t/\QK<=n:=by
 cases p using Q3 with
 |Z0 k=>
  obtain⟨h0,x,t,O,O⟩:=r;obtain O:=I3 e;refine⟨x,t,O,?_⟩;have:=HK0 pZ h0;have h2:QK=pZ.M7:=by trivial
  exact(Dx h0).C8 J2
 |EG k=>obtain⟨x,t,O,hl⟩:=r;obtain O:=I3 e;exact⟨x,t,O,hl⟩
 |_=>contradiction
theorem IK0{a b:PV}{v w:K0}(g:J1 B A G s)(r:H3 G W0 a v)(r':H3 G W0 b w){c:C0}:V4 B RV F A (y5 c (qp a b)) (Mm .wU v w) G s:=by
 intro P X M0;obtain⟨p,hp,hP⟩:=u9 M0;unfold qp at hp;cases h1:XM a with
 |H0=>rw[h1]at hp;contradiction
 |E0 x=>
  rw[h1]at hp;cases h2:XM b with
  |H0=>rw[h2]at hp;contradiction
  |E0 y=>
   rw[h2]at hp;change(bif T9 (x+y) 100000 then E0 (PV.EG (x+y))else H0)=E0 p at hp;obtain⟨h3,hp⟩:=UC hp;obtain O:=I3 hp;have hz:=u6 h3;obtain⟨s1,t1,O,l1⟩:=Nj r h1;obtain⟨s2,t2,O,l2⟩:=Nj r' h2;have Z7:aA=16777216:=O;refine add_str (λ t' tk=>jU (R:=RV) (a:=.EG (x+y)) g tk ⟨_,t',O,?_⟩ hP) (by exact ω49 ‹_› ‹_› ‹_› ‹_›);rw[u0.J90];exact EU ‹_› ‹_›
theorem JK0:seqRepeat? (.U0 "tuple")=L4 (E0 (.Z4 "tuple.__mul__")):=by
 rfl
theorem KK0:fillsNumberSlot (.U0 "tuple") "mul"=L4 R0:=
 EP.fillsNumberSlot_seq (id:="tuple.__mul__") (r:=E0 (.Z4 "tuple.__rmul__")) F.yT0.e9 (by decide +F7) F.slot_tuple_rmul.e9 (by decide +F7)
theorem LK0(a:B2)(t:P6)(l:H1)(H5:M4 K0)(n:C0):
  T_ (MA.«int.__rmul__» ⟨[.j0 a t,.J0 l],[]⟩) (λ _ R s=>F3 l=E0 {O2:=.U0 "tuple",H2:=H0,M3:=.W5 H5 n,LC:=#[]}/\R (.ok (.U1 K0.notImplemented)) s):=
 .Bn λ L3 w A R s h=>by obtain⟨hp,g,d,tk,os⟩:=s;obtain⟨hl,h⟩:=h;wp_walk;exact⟨_,O,h⟩
theorem MK0(l:H1)(H5:M4 K0)(n:C0)(t:P6):
  T_ (MA.«tuple.__mul__» ⟨[.J0 l,.j0 0 t],[]⟩) (λ _ R s=>F3 l=E0 {O2:=.U0 "tuple",H2:=H0,M3:=.W5 H5 n,LC:=#[]}/\
   (H5=#[]->R (.ok (.U1 (.J0 l))) s)/\R (.ok (.U1 (.J0 P2))) {s with B3:=G8 {O2:=.U0 "tuple",M3:=.W5 #[]}}):=
 .Bn λ L3 w A R s h=>by
  obtain⟨hl,h1,h2⟩:=h;have hT:fC (.J0 l) "tuple":=⟨_,hl,O⟩;show V0 _ _ (asIndex (.j0 0 t)>>=_) _ _ s;refine S0 (WN (a:=(0:B2)) O ?_);show V0 _ _ (if(JE ((0:B2)< -(2^63))||JE ((0:B2)≥2^63))=I0 then _ else _) _ _ s;refine S0 (RU0 ⟨_,hl,O,_,O⟩ ?_);show V0 _ _ (if(H5.jL||((0:B2)==1))=I0 then _ else _) _ _ s;by_cases he:H5.jL=I0
  ·rw[y3 (by rw[he];rfl)];refine S0 (m:=G80.mU0 (.J0 l)) ?_;refine S0 (OR hT (E2 ?_));exact S0 (RP (E2 ⟨_,O,h1 (by simpa using he)⟩))
  ·rw[w3 (by simp[he])];first
    |exact S0 (m:=TZ _) (HH (S0 (E2 (E2 ⟨_,O,h2⟩))) (by show(#[]:M4 K0).L9<=aA;simp))
    |exact S0 (m:=TZ _) (HH (E2 ⟨_,O,h2⟩) (by show(#[]:M4 K0).L9<=aA;simp))
theorem NK0{h:O1}{l:PV}{vs:P0 K0}(r:A4 G h l vs):nE .B0 l=l:=yG (C:=λ l vs=>nE .B0 l=l) O (λ a r v q hv hr ih=>by rw[oJ0,ih]) r
theorem W40:aA=16777216:=O
theorem OK0{a b:AO}{q:PV}(h:vp a b=E0 q):∃l m,a=.M1 l/\b=.M1 m/\I5 l=I0/\I5 m=I0/\q=nE m l:=by
 cases a using FA with
 |M1 l=>
  cases b using FA with
  |M1 m=>
   have h:(bif I5 l then bif I5 m then E0 (nE m l)else H0 else H0)=E0 q:=h;obtain⟨h1,h⟩:=UC h;obtain⟨h2,h⟩:=UC h;exact⟨l,m,O,O,h1,h2,(I3 h).Z3⟩
  |_=>contradiction
 |_=>contradiction
theorem PK0{a b:PV}{v w:K0}(g:J1 B A G s)(r:H3 G W0 a v)(r':H3 G W0 b w):V4 B RV F A (P10 a b) (Mm .wU v w) G s:=by
 cases a using Q3 with
 |j0 i=>
  cases b using Q3 with
  |j0 j=>
   intro P X M0;obtain⟨t,O⟩:=r;obtain⟨u,O⟩:=r';have M0:P (.j0 (i+j)) R1:=M0;exact li (jU (R:=RV) (a:=.j0 (i+j)) g _ ⟨_,O⟩ M0)
  |_=>exact FD
 |Q0 l=>
  cases b using Q3 with
  |Q0 m=>
   intro P X M0;obtain⟨a,vs,n,O,z1,e1,r1⟩:=r;obtain⟨b,ws,n',O,z2,e2,r2⟩:=r';change((bif I5 l then bif I5 m then W1 (.Q0 (nE m l))else F2 16 else F2 16) R1).P1 P X at M0;cases h1:I5 l with
   |R0=>rw[h1]at M0;exact C4
   |I0=>
    cases h2:I5 m with
    |R0=>rw[h1,h2]at M0;exact C4
    |I0=>
     rw[h1,h2]at M0;have M0:P (.Q0 (nE m l)) R1:=M0;have l1:=OT r1 h1;have l2:=OT r2 h2;have T1:fC (.J0 a) "tuple":=(oO e1).AD;have T2:fC (.J0 b) "tuple":=(oO e2).AD;have ra:=Zc r1 r2;have cat:∀{S:EP.Spec},T_ (MA.«tuple.__add__» ⟨[.J0 a,.J0 b],[]⟩) S->S A (wants (Po B RV F A G s P) (Px B F A G s X)) s->V0 R2 A (Mm .wU (.J0 a) (.J0 b)) (Po B RV F A G s P) (Px B F A G s X) s:=λ m h=>
      nU0 T1 T2 noFill_tuple_add seq_tuple_add c8.slot_tuple_add c8.entry_tuple_add (c8.args_tuple_add_2 _ _) m h
     by_cases x1:vs=[]
     ·subst x1;obtain O:=K40 r1;exact cat (Xe.tuple___add___tuple_tuple_0 a #[] n b kZ n' O) ⟨e1,e2,nz (R:=RV) (a:=.Q0 m) g ⟨b,ws,n',O,z2,e2,r2⟩ M0⟩
     ·by_cases x2:ws=[]
      ·subst x2;have hm:nE m l=l:=by
        obtain O:=K40 r2;exact NK0 r1
       rw[hm]at M0;exact cat (Xe.tuple___add___tuple_tuple_1 a OB n b #[] n' (by simpa using x1) O) ⟨e1,e2,nz (R:=RV) (a:=.Q0 l) g ⟨a,vs,n,O,z1,e1,r1⟩ M0⟩
      ·refine cat (Xe.tuple___add___tuple_tuple_2 a OB n b kZ n' (by simpa using x1) (by simpa using x2) (by simp[W40];exact vU ‹_› ‹_› O)) ⟨e1,e2,?_⟩;obtain⟨g',st,rt⟩:=g.S40 (tk:=X4) (k:=0) ra;have:=wN (R:=RV) (zH (F:=F) st) g' rt M0;simpa using J2
  |_=>exact FD
 |J0 i=>
  cases b using Q3 with
  |J0 j=>
   intro P X M0;obtain⟨hi,O⟩:=r;obtain⟨hj,O⟩:=r';change(F1 (y5 17 (vp (P3 i) (P3 j))) (λ l=>V9 (.M1 l)) R1).P1 P X at M0;obtain⟨q,hq,hP⟩:=u9 (j6 M0);have oi:=HA i hi;have oj:=HA j hj;obtain⟨l,m,ei,ej,h1,h2,O⟩:=OK0 hq;rw[ei]at oi;rw[ej]at oj;obtain⟨vs,n,e1,r1⟩:=oi;obtain⟨ws,n',e2,r2⟩:=oj;have l1:=OT r1 h1;have l2:=OT r2 h2;refine nU0 (R9 e1).AD (R9 e2).AD noFill_list_add seq_list_add c8.slot_list_add c8.entry_list_add (c8.args_list_add_2 _ _)
    (Xe.list___add___list_list_0 _ OB n _ kZ n' (by simp[W40];exact vU ‹_› ‹_› O)) ⟨e1,e2,?_⟩
   obtain⟨g',st,rt⟩:=g.dR (tk:=X4) (k:=0) (Zc r1 r2);have:=wN (R:=RV) (zH (F:=F) st) g' rt hP;simpa using J2
  |_=>exact FD
 |_=>exact IK0 g r r'
def Ju:nK->C_
 |.n6=> .wU|.w0=> .FG|.La=> .tP
theorem QK0{op:nK}{a b:PV}{v w:K0}(g:J1 B A G s)(r:H3 G W0 a v)(r':H3 G W0 b w):V4 B RV F A (binop op a b) (Mm (Ju op) v w) G s:=by
 cases op using nK.n8 with
 |n6=>exact PK0 g r r'
 |w0=>
  cases a using Q3 with
  |j0 i=>
   cases b using Q3 with
   |j0 j=>
    intro P X M0;obtain⟨t,O⟩:=r;obtain⟨u,O⟩:=r';have M0:P (.j0 (i-j)) R1:=M0;exact eM.sub_int (jU (R:=RV) (a:=.j0 (i-j)) g _ ⟨_,O⟩ M0)
   |_=>exact FD
  |_=>exact FD
 |La=>
  cases a using Q3 with
  |Q0 l=>
   cases b using Q3 with
   |j0 j=>
    cases j using ZL with
    |O4 k=>
     induction k using TL with
     |K9=>
      intro P X M0;obtain⟨a,vs,n,O,z1,e1,r1⟩:=r;obtain⟨u,O⟩:=r';have M0:P (.Q0 .B0) R1:=M0;have T1:fC (.J0 a) "tuple":=(oO e1).AD;refine wpAny_binaryOp_repeat_ref (T:="tuple") (U:="int") (by decide) T1 (λ s'=>aV0 s' _ u) KK0 c8.fills_int_mul c8.SU0 JK0 c8.slot_int_index.e9
       (QR c8.SU0 (aV0 s _ u) c8.entry_int_rmul (c8.args_int_rmul_2 _ _) (LK0 _ u a OB n)
        ⟨e1,O,T1,QR c8.yT0 T1 c8.entry_tuple_mul (c8.args_tuple_mul_2 _ _) (MK0 a OB n u) ⟨e1,λ q=>?_,?_⟩⟩)
      ·have:vs=[]:=by simpa using q
       subst J2;exact nz (R:=RV) (a:=.Q0 .B0) g ⟨a,[],n,O,z1,e1,O⟩ M0
      ·obtain⟨g',st,rt⟩:=g.S40 (l:=.B0) (vs:=[]) (tk:=X4) (k:=0) O;exact wN (R:=RV) (zH (F:=F) st) g' rt M0
     |J9 k=>exact FD
    |PB k=>exact FD
   |_=>exact FD
  |_=>exact FD
end
section
variable{B:Bs}{A:Around}{G:Gh}{s:Shared}{F:Addr->Prop}
structure O8(n:C0)(A:C6):Prop where
 wZ:F9=H0
 DU:fR+n+50<=cZ
 units:vL+8*n+500<=jP
theorem O8.cu{n:C0}(x:O8 n A):Cu A:=by have:=So;show vL+100<jP;exact ω87 ‹_›
theorem O8.J9{n:C0}(x:O8 (n+1) A):O8 n A:=⟨C10,by have:=To;exact NP ‹_›,by have:=So;omega⟩
theorem O8.XW{n:C0}{O0:o6}(x:O8 (n+1) A):O8 n (iN O0):=⟨C10,by have:=To;show fR+1+n+50<=_;exact ω40 ‹_›,by have:=So;show vL+3+8*n+500<=_;omega⟩
theorem sZ{A':C6}(g:J1 B A G s)(h:A'.K80=dN):J1 B A' G s:=⟨LE,bp,VB,lE,by rw[h];exact WJ⟩
theorem V5.Lu{N0:o6}{D D':u0->Prop}{O0:PV}{h:O1}(x:V5 B N0 D O0 G h)(k:∀y,D y->D' y):V5 B N0 D' O0 G h:=
 ⟨o_ x.ns λ m hn hm=>⟨m,hn,λ y v h1 h2=>hm y v h1 λ d=>h2 (k y d)⟩,x.l6,x.ai,x.rU,x.dP,Gg,Fg,x00⟩
theorem RK0{N0:o6}{L:z5}(EK:n9 N0 L)(f:u0×K0->Lf->Y7 (Dm Lf))(hf:∀n v u,f (n,v) u=(do Cm N0 n v;L4 (.xW ⟨⟩)))(hF:∀b,D5 N0 L b->F b):
  ∀{p:PV}{kD:P0 (u0×K0)}{O0:PV}{s:D1}{Q:Lf->D1->Prop}{E},J1 B A G s->V5 B N0 D0 O0 G W0->U8 G W0 p kD->(∀x∈kD,A5 x.1=I0/\z6 L x.1=I0)->
   (∀s',A3 B F G s G s'->J1 B A G s'->V5 B N0 D0 (dJ O0 p) G U6->Q ⟨⟩ s')->V0 R2 A (Mf kD ⟨⟩ f) Q E s:=by
 intro p;induction p with
 |B0=>
  intro kD O0 s Q E g ER r ok h;cases r;exact E2 (h s (.M5 ..) g ER)
 |kv k v r _ ih=>
  intro kD O0 s Q E g ER rr ok h;obtain⟨x,u,q,e,h0,hx,hv,hr⟩:=rr;subst e;rw[PW,hf];obtain⟨o1,o2⟩:=ok (x,u) (aE ..);refine S0 (S0 (lV EK g ER o1 o2 hv hF λ s' st g' Ku=>E2 ?_));refine ih g' (Ku.Lu ?_) (L00 IU JX hr) (λ y hy=>ok y (AC _ hy)) λ O7 SA vJ SK0=>h O7 (gN SA) vJ ?_
  ·exact λ y hy=>hy.1
  ·subst hx;exact SK0
 |_=>exact λ _ _ r=>YI
theorem TK0:∀(L:z5)(n:C0)(N3:P0 (u0×H1)){x:u0},((∃y∈L,y.1=x/\(y.2==MR)=I0)\/∃c,N3.e9 x=E0 c)->∃c,(fx n L N3).e9 x=E0 c:=by
 intro zq;induction zq with
 |B0=>
  intro n N3 x h;rcases h with⟨_,hy,_⟩|h
  ·contradiction
  ·exact h
 |A0 pq r ih=>
  intro n N3 x h;obtain⟨W2,nL⟩:=pq;unfold fx;cases hk:nL==MR with
  |I0=>
   refine ih _ _ ?_;rcases h with⟨y,hy,e,pO⟩|⟨c,hc⟩
   ·rcases kA hy with O|hy
    ·have e:W2=x:=e;subst e;exact .L2 ⟨n,by simp⟩
    ·exact .S2 ⟨y,hy,e,pO⟩
   ·by_cases e:x=W2
    ·subst e;exact .L2 ⟨n,by simp⟩
    ·exact .L2 ⟨c,by rw[JR,show(x==W2)=R0 by simpa using e];exact hc⟩
  |R0=>
   refine ih _ _ ?_;rcases h with⟨y,hy,e,pO⟩|h
   ·rcases kA hy with O|hy
    ·have pO:(nL==MR)=I0:=pO;rw[hk]at pO;contradiction
    ·exact .S2 ⟨y,hy,e,pO⟩
   ·exact .L2 h
theorem UK0(g:J1 B A G s){a:H1}(h:F3 a=H0):¬w9 G a:=bp.yI0 h
theorem aN(g:J1 B A G s){a:H1}(ha:P2<=a):¬w9 G a/\TG a=H0/\a∉GG:=by
 have h1:F3 a=H0:=TE ha;have h2:TG a=H0:=TE (X6 g.Du ha);exact⟨UK0 g h1,h2,λ q=>by obtain⟨o,e⟩:=jn a q;rw[h2]at e;contradiction⟩
theorem X40{fd:PH}{L:z5}{a:H1}{kD:P0 (u0×K0)}{p:PV}{uB:u0}{Q:o6->D1->Prop}{E}(g:J1 B A G s)(hk:fd.ST=.sF)(hg:Ho=OP)(hb:No=kW)
  (rR:B.Ti NX)(hL:wS=L)(xN:∀x,G9 x≠E0 .j7)(yW:∀x,G9 x=E0 .l6->∃y∈L,y.1=x/\(y.2==MR)=I0)(r:U8 G W0 p kD)(ok:∀x∈kD,A5 x.1=I0/\z6 L x.1=I0)
  (h:∀N0 s',n9 N0 L->lW=E0 NA->N0.XG=E0 a->IP≠.vW->A3 B N2 G s G s'->J1 B A G s'->V5 B N0 D0 (dJ .B0 p) G U6->
   (∃o,VL NA=E0 o/\H4=.U0 "frame"/\∀vs,I9≠.T5 vs)->(∀b,D5 N0 L b->F3 b=H0)->Q N0 s'):
  V0 R2 A (sb GT Ho [] kD uB (E0 a) NX H0 No) Q E s:=by
 unfold sb;show V0 _ _ (alloc {O2:=.U0 "frame",M3:=.H2 #[]}>>=_) _ _ _;refine S0 (GV0 ?_);refine S0 (zT0 _ (λ W2 nL CU=>by cases hkc:nL==MR<;>simp[hkc]) _ _ _ _ ?_);have QT:=oU0 wS (G8 {O2:=.U0 "frame",M3:=.H2 #[]}) (P2+1) [] ⟨λ _ _ hm=>(nomatch hm),HV0⟩ (by rw[bD];exact B8 _);rw[bD]at QT;rw[show({s with B3:=G8 {O2:=.U0 "frame",M3:=.H2 #[]}}:D1).B3.SC.L9=P2+1 from bD ..];generalize YF:fx (P2+1) wS []=CU at QT ⊢;generalize nV:tV0 (G8 {O2:=.U0 "frame",M3:=.H2 #[]}) wS=hp at QT ⊢;have kp:∀b o,F3 b=E0 o->ff b=E0 o:=λ b o e=>nV▸bb _ _ _ _ (vA _ _ _ _ e);obtain⟨g1,C2⟩:=g.vB (h':=hp) (tk:=X4) kp;have Mu:ff P2=E0 {O2:=.U0 "frame",M3:=.H2 #[]}:=nV▸bb _ _ _ _ (DA _ O);have hNs:hp.Ns P2 (λ _=>H0):=nV▸(O1.Ns.SB W0 (.U0 "frame")).zW (bb _ _)
 let N0:o6:={w8:=GT,jp:=P2,dE:=Ho,CU:=CU,uB:=uB,XG:=E0 a,bA:=NX,HD:=E0 P2,pF:=No}
 have EK:n9 N0 L:=⟨hk,λ x e=>by show fa x=_;rw[hL];exact e,λ x e=>by show fa x=_;rw[hL];exact e,λ x e=>U3 e (xN x),λ x e=>by show fa x=_;rw[hL];exact e,hg,hb,λ e=>xN "__class__" (by rw[<-hL];exact e)⟩;have kOf:∀x,CB x=G9 x:=λ x=>by show fa x=_;rw[hL]
 have Oz:∀x c,VS0 x=E0 c->P2+1<=c/\hp.cW c H0:=λ x c e=>⟨(TW0 x c (bv e)).2,(TW0 x c (bv e)).1⟩;have ER:V5 B N0 D0 .B0 G hp:=⟨⟨_,hNs,λ x v _ _ _ e=>(by rw[Vs]at e;contradiction)⟩,λ x v _ _ e=>(by rw[Vs]at e;contradiction),λ x c e=>⟨_,(Oz x c e).2⟩,λ x e=>by
   rw[kOf]at e;obtain⟨y,hy,O,pO⟩:=yW x e;show∃c,VS0 y.1=E0 c;rw[<-YF,hL];exact TK0 L _ [] (.S2 ⟨y,hy,O,pO⟩),
  λ x y c e e'=>name_of_addr QT.dP (bv e) (bv e'),?_,λ x c e=>?_,rR⟩
 ·have hF:∀b,D5 N0 L b->F3 b=H0:=λ b hb=>by
   rcases hb with O|⟨x,_,hx⟩
   ·exact TE (B8 _)
   ·exact TE (u80 (Oz x b hx).1)
  refine S0 (RK0 (s:={s with B3:=hp}) EK _ (λ _ _ _=>O) (F:=D5 N0 L) (λ _ q=>q) g1 ER (L00 C2.le h_ r) ok λ s' SA g' Ku=>E2 ?_);have I2:=(iC (F':=D5 N0 L) (λ _ q=>Q6)).U2 SA;refine h N0 s' EK O O (by show fd.ST≠.vW;rw[hk];decide) (I2.TF λ b hb=> .L2 (hF b hb)) g' Ku ?_ hF;exact SA.k3.fr _ _ Mu O (λ vs q=>nomatch q)
 ·exact aN g (B8 _)
 ·exact aN g (u80 (Oz x c e).1)
end
section
variable{B:Bs}{A:Around}{G:Gh}{s:Shared}{F:Addr->Prop}
def HS(hf h h':O1):Prop:=∀b o,C3 b=E0 o->∃o',D3 b=E0 o'/\BL o o'/\(GP b=H0\/o'=o)
theorem HS.M5(hf h:O1):HS hf h h:=λ b o e=>⟨o,e,.M5 o,.L2 O⟩
theorem HS.eq{hf h h':O1}(x:HS hf h h'){b:H1}{o:D4}(e:C3 b=E0 o)(h1:H4≠.U0 "frame")(h2:H4≠.U0 "traceback"):D3 b=E0 o:=by
 obtain⟨o',e',q,_⟩:=x b o e;rw[q.eq h1 h2]at e';exact e'
theorem HS.k3{hf h h':O1}(x:HS hf h h'):XE h h':=by
 refine⟨λ b o ts e c d=>?_,λ b o e c d=>?_,λ b o e c=>Ig e (by rw[c.1];decide) (by rw[c.1];decide)⟩
 ·symm;obtain⟨o',e',q,_⟩:=x b o e;rcases q with O|⟨c',_⟩|⟨_,us,us',hd,O,hz⟩
  ·ext;exact⟨_,ts,e',c,d,O⟩
  ·ext;rw[c]at c';exact U3 c' (by decide)
  ·ext;rw[d]at hd;cases hd;exact⟨_,us',e',c,O,hz⟩
 ·symm;obtain⟨o',e',q,_⟩:=x b o e;rcases q with O|⟨_,sl,O⟩|⟨c',_⟩
  ·ext;exact⟨_,e',c,d⟩
  ·ext;exact⟨_,e',c,d⟩
  ·ext;rw[c]at c';exact U3 c' (by decide)
theorem J1.hs(g:J1 B A G s){h':O1}{tk:P6}(x:HS VH W0 h'):J1 B A G {s with B3:=h',B4:=tk}/\A3 B N2 G s G {s with B3:=h',B4:=tk}:=by
 have k3:=x.k3;have Q0:CC F5 W0 h':=λ b vs n _ e=>Ig e (by simp) (by simp);obtain⟨l,hl,hf⟩:=WJ;refine⟨⟨LE,⟨UG,λ i hi=>?_,kL,yC,λ a ha=>⟨(DE a ha).1,by obtain⟨o,e⟩:=(DE a ha).2;exact by obtain⟨o',e',_⟩:=x a o e;exact⟨o',e'⟩⟩⟩,λ b o e h1 h2 h3=>Ig (VB b o e h1 h2 h3) h2 h3,
  xR _ _ (λ b o e z=>?_) lE,l,hl,Zf k3⟩,⟨h',tk,O⟩,.M5 G,λ b q=> .S2 q,λ b o e=>by obtain⟨o',e',_⟩:=x b o e;exact⟨o',e'⟩,λ b o e _ _ _=>by obtain⟨o',e',q,_⟩:=x b o e;exact⟨o',e',q⟩,Q0,k3⟩
 ·by_cases ha:P3 i=.K4
  ·rw[ha];trivial
  ·obtain⟨ob,e,nf⟩:=(HA i hi).l9 ha;refine(HA i hi).E5 (.M5 G) Q0 k3 (λ sM e'=>Ig e' ?_ ?_) λ d l _ q=>⟨l,q⟩
   ·rw[e]at e';obtain O:=I3 e';exact λ q=>nf (.L2 (.S2 q))
   ·rw[e]at e';obtain O:=I3 e';exact λ q=>nf (.L2 (.L2 (.S2 q)))
 ·rcases z with z|z
  ·exact Ig e (B.Ss _ lE b z o e).1 (B.Ss _ lE b z o e).2
  ·rcases z with z|⟨y,q⟩
   ·exact Ig e (by rw[z.1];decide) (by rw[z.1];decide)
   ·obtain⟨o',e',_,z⟩:=x b o e;rcases z with z|z
    ·rw[z]at q;contradiction
    ·rw[<-z];exact e'
theorem J1.lA0{h':O1}{tk:P6}{i:C0}(g:J1 B A G s)(hi:i<J3)(hn:P3 i≠.K4)
  (k:∀b o,b≠Y2 i->F3 b=E0 o->D3 b=E0 o)(ho:zE B G h' (Y2 i) (P3 i)):
  J1 B A G {s with B3:=h',B4:=tk}/\A3 B N2 G s G {s with B3:=h',B4:=tk}:=by
 obtain⟨ob,JS,Ma⟩:=(HA i hi).l9 hn;have hZ:∀b∈GG,b≠Y2 i:=λ b hb q=>by
  obtain⟨o,e⟩:=jn b hb;rw[q,yC i hi hn]at e;contradiction
 have ne:∀{b sM},F3 b=E0 sM->CL sM.O2->b≠Y2 i:=λ e f q=>by rw[q,JS]at e;obtain O:=I3 e;exact Ma f
 have k3:XE W0 h':=⟨λ b o ts e c d=>⟨o,ts,k b o (ne e (.L2 (.L2 (.S2 c)))) e,c,d,O⟩,λ b o e c d=>⟨o,k b o (ne e (.L2 (.S2 c))) e,c,d⟩,λ b o e c=>k b o (ne e (.L2 (.L2 (.L2 (.S2 c.1))))) e⟩;have Q0:CC F5 W0 h':=λ b vs n _ e=>k _ _ (ne e (.S2 O)) e;obtain⟨l,hl,hf⟩:=WJ;have GE:∀b ob,F3 b=E0 ob->∃o',D3 b=E0 o':=λ b ob e=>by
  by_cases q:b=Y2 i
  ·subst q;obtain⟨sM,e',_⟩:=ho.l9 hn;exact⟨sM,e'⟩
  ·exact⟨ob,k _ _ q e⟩
 refine⟨⟨LE,⟨UG,λ j hj=>?_,kL,yC,λ a ha=>⟨(DE a ha).1,by obtain⟨o,e⟩:=(DE a ha).2;exact GE a o e⟩⟩,λ b o e h1 h2 h3=>k _ _ (λ q=>?_) (VB b o e h1 h2 h3),
  xR _ _ (λ b o e hz=>k _ _ (NB0 (hZ b) λ c=>Mo (λ c=>ne e (.L2 (.L2 (.L2 (.S2 c.1))))) λ zz z=>DM zz λ x q=>by rw[z,yC i hi hn]at q;contradiction) e) lE,l,hl,Zf k3⟩,⟨h',tk,O⟩,.M5 G,λ b x=> .S2 x,GE,λ b o e h1 _ _=>⟨o,k _ _ (λ q=>h1 ⟨i,hi,hn,ZK⟩) e,.M5 o⟩,Q0,k3⟩
 ·by_cases q:j=i
  ·subst q;exact ho
  ·by_cases ha:P3 j=.K4
   ·rw[ha];trivial
   ·exact(HA j hj).E5 (.M5 G) Q0 k3 (λ ob e=>k _ _ (λ z=>q (UG j i hj hi ha hn z)) e) λ d l _ e=>⟨l,e⟩
 ·have:=yC i hi hn;rw[<-q,e]at J2;contradiction
theorem Cn{hf h:O1}{T:H1}{o:D4}{ts:M4 K0}(bT:GP T=H0)(e:C3 T=E0 o)(hc:H4=.U0 "traceback")(hd:I9=.T5 ts)(k:C0)(v:K0):HS hf h (h.JF T (gZ (·.II k v))):=λ b ob hb=>by
 by_cases q:b=T
 ·subst q;rw[e]at hb;obtain O:=I3 hb;have eA:=aZ hd (·.II k v);refine⟨_,GH _ e (ka eA),.L2 (.L2 ⟨hc,ts,ts.II k v,hd,?_,by simp⟩),.S2 bT⟩;obtain⟨c,d,dt,sl⟩:=o;cases hd;rfl
 ·exact⟨ob,by rw[hM h _ (H9 q)];exact hb,.M5 ob,.L2 O⟩
theorem HS.LC{hf:O1}{S:P0 H1}{h h':O1}(x:O1.SlotsOnly S h h')(hS:∀b∈S,∃o,C3 b=E0 o/\H4=.U0 "frame"/\GP b=H0):HS hf h h':=λ b o e=>by
 by_cases hb:b∈S
 ·symm;obtain⟨o',e',hc,bL⟩:=hS b hb;rw[e]at e';obtain O:=I3 e';obtain⟨sl,hs⟩:=x.2.2 b o e;ext;exact⟨_,hs,.L2 (.S2 ⟨hc,sl,O⟩),.S2 bL⟩
 ·exact⟨o,by rw[x.2.1 b hb];exact e,.M5 o,.L2 O⟩
theorem vS.mem{hf h:O1}{l:P0 o6}(x:vS hf h l){b:H1}(hb:b∈l.UV (·.HD)):∃o,C3 b=E0 o/\H4=.U0 "frame"/\GP b=H0:=by
 symm;obtain⟨e,he,hf⟩:=QT0 hb;obtain⟨_,L,o,hL,ho,hc,_,bL⟩:=x e he;ext;rw[hf]at hL;obtain O:=I3 hL;exact⟨o,ho,hc,bL⟩
end
section
variable{B:Bs}{A:Around}{G:Gh}{s:Shared}{F:Addr->Prop}
theorem Nu(g:J1 B A G s){i:C0}{e:K0}(x:vG G i e):∃cx c d vs,P3 i=.K8 cx c d/\e=.J0 (Y2 i)/\i<J3/\F3 (Y2 i)=E0 ⟨.J0 c,E0 (Y2 d),.T5 vs,#[]⟩/\uS VH cx W0 vs:=by
 obtain⟨hi,O,cx,c,d,hx⟩:=x;have ob:=HA i hi;rw[hx]at ob;obtain⟨vs,e,_,_,t⟩:=ob;exact⟨cx,c,d,vs,hx,O,hi,e,t⟩
theorem Ou{cx:I1}{h:O1}{vs:M4 K0}(t:uS VH cx h vs):vs[1]?=E0 .H0\/∃T oT ts,vs[1]?=E0 (.J0 T)/\C3 T=E0 oT/\oT.O2=.U0 "traceback"/\oT.M3=.T5 ts/\3<Nn/\TG T=H0:=t.2
def xM(B:Bs)(A:C6)(G:Gh)(s s':D1):Prop:=J1 B A G s'/\A3 B N2 G s G s'
theorem xM.U2{N6 s9 MD:D1}(x:xM B A G N6 s9)(y:xM B A G s9 MD):xM B A G N6 MD:=⟨y.1,x.2.U2 y.2⟩
theorem gQ(g:J1 B A G s){i:C0}{e:K0}(x:vG G i e){fo:Q1 H1}{Q:T7->D1->Prop}{E}(h:∀s',xM B A G s s'->Q () s'){A':C6}:V0 R2 A' (Re e fo) Q E s:=by
 obtain⟨cx,c,d,vs,hx,O,hi,he,ht⟩:=Nu g x;rcases Ou ht with h1|⟨T,oT,ts,h1,hT,hc,hd,h3,bT⟩
 ·refine S0 (N7 he O h1 ?_);exact E2 (h s ⟨g,.M5 ..⟩)
 ·refine S0 (N7 he O h1 ?_);refine LR hT hd h3 (h _ (g.hs (tk:=X4) (Cn bT hT hc hd 3 _)))
theorem VK0{h:O1}{ts:M4 K0}{k:C0}(hk:k<Nn):∃x,ts[k]?=E0 x:=⟨ts[k],lh hk⟩
def zM(G:Gh)(h:O1)(i:C0):Prop:=∃(c:K0) (d:Q1 H1) (vs:M4 K0) (T:H1),C3 (Y2 i)=E0 ⟨c,d,.T5 vs,#[]⟩/\vs[1]?=E0 (.J0 T)
theorem iY(g:J1 B A G s){i:C0}{e:K0}(x:vG G i e){O0:o6}{cK:P0 o6}{L:H1}(C9:dN=E0 (O0::cK))(hf:O0.HD=E0 L){Q:T7->D1->Prop}{E}
  (h:∀s',xM B A G s s'->zM G U6 i->Q () s'){A':C6}(hA:A'.K80=dN){N0:o6}(bG:lW=E0 L):V0 R2 A' (Em e N0) Q E s:=by
 obtain⟨cx,c,d,vs,hx,O,hi,he,ht⟩:=Nu g x;unfold Em;rw[bG];symm;have lD:∀(J8:K0)(aA0:I1)(N6:D1),J1 B A G N6->A3 B N2 G s G N6->(∃vs,N6.FV (Y2 i)=E0 ⟨.J0 c,E0 (Y2 d),.T5 vs,#[]⟩/\uS VH cx o00 vs)->
   V0 R2 A' (do let a <-bA0 N0;let pl <-entryPlaceOf L aA0;let b <-EntryCells.newEntry J8 a .H0 (j5 L) .H0 pl;Ye (.J0 (Y2 i)) 1 b) Q E N6:=λ J8 aA0 N6 u_ fc hv=>by
  obtain⟨vs₁,qO,Nf⟩:=hv;obtain⟨l,hl,OO⟩:=u_.fr;rw[C9]at hl;obtain O:=I3 hl;have fo:V0 R2 A' (bA0 N0) (λ v s'=>v=.J0 L/\∃h',s'={N6 with B3:=h'}/\HS VH o00 h') E N6:=by
   unfold bA0;refine S0 (wpAny_frameEnvs (hA.U2 C9) ?_);have hdw:((O0::cK).uV0 λ x=>x.HD !=lW)=O0::cK:=by simp -w4 [P0.uV0,hf,bG]
   rw[hdw];refine S0 (S0 (wpAny_readyFrames_fun OO.fun λ n5 BE=>E2 ?_));rw[hf];exact E2 ⟨O,n5,O,HS.LC BE λ b hb=>vS.mem OO hb⟩
  refine S0 (V3 fo (λ v s9 zz=>EO zz λ ev zz=>o_ zz λ u7 es mB=>?_) λ _ _ z=>z);subst ev;subst es;obtain⟨g₂,WK0⟩:=u_.hs (tk:=N6.B4) mB;refine S0 (wpAny_entryPlaceOf λ pl hpl=>?_);refine S0 (HH ?_ (hpl.sizeOk5 _ _ _ _ _));obtain⟨Y40,pV⟩:=g₂.Q40 {O2:=.U0 "traceback",H2:=H0,M3:=.T5 ([J8,.J0 L,.H0,j5 L,.H0]++(if Io then ik 6 IF else pl)).P8} N6.B4;have wJ:=mB.eq qO (by simp -w4) (by simp -w4);have AN:=vA u7 {O2:=.U0 "traceback",H2:=H0,M3:=.T5 ([J8,.J0 L,.H0,j5 L,.H0]++(if Io then ik 6 IF else pl)).P8} _ _ wJ;have hT:SW≠Y2 i:=aW (r9 wJ);have hnT:(u7.y6 {O2:=.U0 "traceback",H2:=H0,M3:=.T5 ([J8,.J0 L,.H0,j5 L,.H0]++(if Io then ik 6 IF else pl)).P8}).X5 SW=E0 {O2:=.U0 "traceback",H2:=H0,M3:=.T5 ([J8,.J0 L,.H0,j5 L,.H0]++(if Io then ik 6 IF else pl)).P8}:=DA u7 O;have UT:=aZ (o:=(⟨.J0 c,E0 (Y2 d),.T5 vs₁,#[]⟩:D4)) O (·.II 1 (x6 SW));have me:=GH (gZ (·.II 1 (x6 SW))) AN (ka UT);have ob:=Y40.ip i hi;rw[hx]at ob;obtain⟨_,_,UO,iQ,_⟩:=ob;have m:=Y40.lA0 (h':=(u7.y6 {O2:=.U0 "traceback",H2:=H0,M3:=.T5 ([J8,.J0 L,.H0,j5 L,.H0]++(if Io then ik 6 IF else pl)).P8}).JF (Y2 i) (gZ (·.II 1 (x6 SW)))) (tk:=N6.B4) hi (by rw[hx];simp -w4)
   (λ b o hb e=>by rw[hM _ _ (H9 hb)];exact e) (by
    rw[hx];refine⟨vs₁.II 1 (.J0 SW),me,UO,iQ,⟨by simpa -w4 using Nf.1.1,λ q=>by simpa -w4 using Nf.1.2 q⟩,.L2 ⟨SW,_,_,by simp -w4 [W8 (by decide:1<5) Nf.1.1],(hM _ _ (H9 hT)).U2 hnT,O,O,by simp -w4 only[nF,P0.J90,GJ,BU];exact ω113,TE g₂.Du⟩⟩)
  refine LR AN O (W8 (by decide:1<5) Nf.1.1) (h _ ?_ ?_)
  ·exact⟨m.1,((fc.U2 WK0).U2 pV).U2 m.2⟩
  ·exact⟨_,_,_,SW,me,by simp -w4 [W8 (by decide:1<5) Nf.1.1]⟩
 rcases Ou ht with h1|⟨T,oT,ts,h1,hT,hc,hd,h3,bT⟩
 ·ext;refine S0 (N7 he O h1 ?_);first
   |exact lD .H0 _ s g (.M5 ..) ⟨vs,he,ht⟩
   |exact S0 (E2 (lD .H0 _ s g (.M5 ..) ⟨vs,he,ht⟩))
 ·ext;refine S0 (N7 he O h1 ?_);obtain⟨x3,hx3⟩:=VK0 (h:=W0) h3;refine S0 (N7 hT hd hx3 ?_);by_cases hq:(x3==j5 L)=I0
  ·rw[y3 hq];exact E2 (h s ⟨g,.M5 ..⟩ ⟨_,_,_,T,he,h1⟩)
  ·rw[w3 hq];symm;have hs:=Cn bT hT hc hd 3 IF;obtain⟨u_,fc⟩:=g.hs (tk:=X4) hs;have k:∃vs,(UL T (gZ (·.II 3 IF))).X5 (Y2 i)=E0 ⟨.J0 c,E0 (Y2 d),.T5 vs,#[]⟩/\uS VH cx (UL T (gZ (·.II 3 IF))) vs:=
    ⟨vs,hs.eq he (by simp -w4) (by simp -w4),hs.k3.pW0 ht⟩
   ext;first
    |exact S0 (LR hT hd h3 (lD (.J0 T) _ _ u_ fc k))
    |exact LR hT hd h3 (lD (.J0 T) _ _ u_ fc k)
    |exact S0 (S0 (LR hT hd h3 (E2 (lD (.J0 T) _ _ u_ fc k))))
theorem Z40(g:J1 B A G s){i:C0}{e:K0}(x:vG G i e){O0:o6}{cK:P0 o6}{L:H1}(C9:dN=E0 (O0::cK))(hf:O0.HD=E0 L){Q:T7->D1->Prop}{E}
  (h:∀s',xM B A G s s'->Q () s'):V0 R2 A (leaving O0 e) Q E s:=by
 unfold leaving;exact S0 (iY g x C9 hf (λ s' st _=>gQ st.1 x λ O7 SA=>h O7 (gN SA)) O hf)
end
section
variable{B:Bs}{A:Around}{G:Gh}{s:Shared}{F:Addr->Prop}
def YE(B:Bs)(N0:o6)(G:Gh)(h:O1):Fl->OJ->Prop
 |.W4 e,.W4=>V5 B N0 D0 e G h
 |.cB e,.cB=>V5 B N0 D0 e G h
 |.bB e,.bB=>V5 B N0 D0 e G h
 |.U1 v _,.U1 w=>H3 G h v w
 |_,_=>J6
structure jQ(B:Bs)(g:C0->Q1 PV)(cl:C0->C0)(a:C0)(p:Pm)(b:S)where
 o:D4
 fd:PH
 P4:P0 P5
 o9:TG a=E0 o
 Oj:a∉GG
 O2:H4=.U0 "function"
 M3:I9=.XG fd
 Pu:RB0=.AE P4
 bA:cS g cl 40 wS P4=b
 Qu:fd.jN=[]
 nL:fd.ST=.sF
 co:GT.Md=R0
 gen:GT.Id=R0
 dE:Ho=OP
 pF:No=kW
 Ru:∀h,YD B h->h.Ry NX fd.OK
 zc:B.Ti NX
 Su:∀x,fa x≠E0 .j7
 l6:∀x,fa x=E0 .l6->∃y∈wS,y.1=x/\(y.2==MR)=I0
 kD:∀{G:Gh}{s:D1}{L1 O0:PV}{L5:P0 K0},YD B W0->(∀a∈F5,TG a=H0)->v00 L1=E0 O0->A4 G W0 L1 L5->
  ∃bs,U8 G W0 O0 bs/\(∀x∈bs,A5 x.1=I0/\z6 wS x.1=I0)/\BindsTo s fd ⟨L5,[]⟩ bs
def xJ(B:Bs)(g:C0->Q1 PV)(cl:C0->C0)(n:C0)(E:C5):Prop:=
 ∀{A:C6}{G:Gh}{s:D1}{N0:o6}{L:z5}{O0:PV}{k:C0}{st:P0 P5},O8 n A->wG A N0 L->J1 B A G s->V5 B N0 D0 O0 G W0->
  V4 B (YE B N0) (D5 N0 L) A (E.AE (cS g cl k L st) O0) (mC st N0) G s
theorem J1.XW(g:J1 B A G s){N0:o6}{L:H1}(hk:IP≠.vW)(hf:lW=E0 L)(ho:∃o,F3 L=E0 o/\H4=.U0 "frame"/\∀vs,I9≠.T5 vs)(hb:TG L=H0):J1 B (iN N0) G s:=by
 obtain⟨l,hl,OO⟩:=WJ;obtain⟨o,e,c,d⟩:=ho;refine⟨LE,bp,VB,lE,N0::l,by show dN.Y4 _=_;rw[hl];rfl,λ x hx=>?_⟩;rcases kA hx with O|hx
 ·exact⟨hk,L,o,hf,e,c,d,hb⟩
 ·exact OO x hx
theorem J1.Uy{A':C6}(g:J1 B A' G s){l:P0 o6}(h:dN=E0 l)(hs:vS VH W0 l):J1 B A G s:=⟨LE,bp,VB,lE,l,h,hs⟩
theorem Pj{g:C0->Q1 PV}{cl:C0->C0}(BF:S7 B g){n:C0}{a:C0}{p:Pm}{b:S}(fo:jQ B g cl a p b)(D6:O8 (n+1) A)(gd:J1 B A G s){L1 O0:PV}{L5:P0 K0}
  (r:A4 G W0 L1 L5)(he:v00 L1=E0 O0){P:PV->K1->Prop}{X:C0->K1->Prop}
  (hb:∀{A':C6}{N0:o6}{s':D1},O8 n A'->wG A' N0 xI->J1 B A' G s'->V5 B N0 D0 (dJ .B0 O0) G U6->A3 B N2 G s G s'->
   V0 R2 A' (mC SX N0) (Po B (YE B N0) (D5 N0 xI) A' G s' λ f σ=>(∃v e,f=.U1 v e/\P v σ)\/∃e,f=.W4 e/\P .H0 σ) (Px B (D5 N0 xI) A' G s' X) s'):
  V0 R2 A (X7 (.J0 a) L5) (Po B RV F A G s P) (Px B F A G s X) s:=by
 obtain⟨bs,rb,Tu,bt⟩:=fo.kD IC (λ a ha=>(ln a ha).1) he r;have hro:=D6.DU;have ho:=IC a fo.o Uo Oo (by rw[Uf];decide) (by rw[Uf];decide);refine xZ (tS0 (by exact ω25 ‹_›) ho D10 fo.co fo.gen fo.Pu (fo.Ru _ IC) ?_);refine bt _ _ _ _ ?_;rw[fo.Qu];refine X40 (A:=sB) (L:=xI) (t90 O) fo.nL fo.dE fo.pF fo.zc O fo.Su fo.l6 rb Tu λ N0 s' EK C9 hfu hmod st g' ER JS hF=>?_;refine⟨j90 _ g'.mA,pU0 ?_⟩;have gc:J1 B (iN N0) G s':=(sZ (A':=A) g' O).XW hmod C9 JS Jf.2.1;obtain⟨l,hl,OO⟩:=gd.fr;have ES:wG (iN N0) N0 xI:=⟨EK,⟨NA,N0,l,by show dN.Y4 _=_;rw[hl];rfl,C9,C9⟩,D6.wZ⟩;have sU:∀{G' O7},A3 B (D5 N0 xI) G s' G' O7->J1 B (iN N0) G' O7->A3 B F G s G' O7/\J1 B A G' O7:=λ SA vJ=>by
  have I2:=(Qn (F':=D5 N0 xI) (λ _ q=>Q6)).U2 SA;have U5:A3 B F G s _ _:=I2.TF λ b hb=> .L2 (hF b hb);exact⟨U5,vJ.Uy hl (Un U5.k3)⟩
 refine V3 (hb D6.XW ES gc ER st) (λ f O7 ⟨G',fl,SA,vJ,rf,hp⟩=>?_) (λ e O7 ⟨G',i,SA,vJ,xi,hx⟩=>?_)
 ·obtain⟨U5,g3⟩:=sU SA vJ;rcases hp with⟨v,e,O,hp⟩|⟨e,O,hp⟩
  ·cases f using JH with
   |U1 w=>exact .at (R:=RV) U5 g3 rf hp
   |_=>exact TK
  ·cases f using JH with
   |W4=>exact .at (R:=RV) (a:=.H0) U5 g3 O hp
   |_=>exact TK
 ·refine Z40 (A:=iN N0) vJ xi (O0:=N0) (cK:=l) (by show dN.Y4 _=_;rw[hl];rfl) C9 λ MD pV=>?_;obtain⟨wA,g4⟩:=sU (SA.U2 (pV.2.E5 λ _ q=>Q6)) pV.1;exact⟨G',i,wA,g4,xi,hx⟩
theorem a40{g:C0->Q1 PV}{cl:C0->C0}(BF:S7 B g){n:C0}{ih:C5}(H:xJ B g cl n ih){a:C0}{p:Pm}{b:S}(fo:jQ B g cl a p b)(D6:O8 (n+1) A)(gd:J1 B A G s){L1:PV}{L5:P0 K0}
  (r:A4 G W0 L1 L5):V4 B RV F A (Kh ih p b L1) (X7 (.J0 a) L5) G s:=by
 intro P X M0;obtain⟨O0,he,M0⟩:=u9 (j6 M0);refine Pj BF fo D6 gd r he λ yL ES cg ER _=>?_;have KS:=H yL ES cg ER (k:=40) (st:=SX);rw[fo.bA]at KS;refine V3 (KS _ _ (j6 M0)) (λ f O7 ⟨G',fl,SA,vJ,rf,hp⟩=>⟨G',fl,SA,vJ,rf,?_⟩) λ _ _ h=>h;cases fl using Ag with
 |U1 v e=>exact .S2 ⟨v,e,O,hp⟩
 |W4 e=>exact .L2 ⟨e,O,hp⟩
 |cB=>exact U00
 |bB=>exact U00
end
section
section
variable{B:Bs}{A:Around}{G:Gh}{s:Shared}{F:Addr->Prop}
def jc:u0:="fresh"
structure jY(B:Bs)(C:C0)(k:Cl)where
 nm:u0
 q:u0
 N:H1
 bs:P0 K0
 sn:P0 u0
 w0:P0 K0
 YJ:Q1 I1
 dd:Q1 H1
 k0:Q1 K0
 k1:Q1 K0
 k2:Q1 K0
 k3:Q1 K0
 k5:Q1 K0
 mN:u0->Q1 K0
 o9:TG C=E0 (PP nm q C N bs [.U0 "object"] I0 sn w0 R0 YJ dd k0 k1 k2 k3 k5 "object.__new__")
 Oj:C∉GG
 ns:∀h,YD B h->eH N mN
 oP:∀x,vc x≠0->I4 (vc x) QI=H0->mN x=H0
 Sb:∀x a,vc x≠0->I4 (vc x) QI=E0 (.Y0 a)->mN x=E0 (.J0 a)/\a∉GG/\∃o,TG a=E0 o/\H4=.U0 "function"
 ga:mN "__getattribute__"=H0
 gh:mN "__getattr__"=H0
 sa:mN "__setattr__"=H0
 E_:mN "__init__"=E0 (.J0 fP)/\fP∉GG/\∃o,TG fP=E0 o/\H4=.U0 "function"
 S6:∀a,I4 DY QI=E0 (.Y0 a)->∃K:Frag,(∀h,YD B h->K.In h)/\u90 K C=I0/\WU K (.J0 C) jc=E0 (E0 (.J0 a))/\mA0 K (.J0 a)=E0 (.U0 "function")/\
  v90 K (.J0 a) "__get__"=E0 (E0 (.Z4 "function.__get__"))/\cA0 K (.J0 a)=E0 R0/\WU K (.J0 C) "__getattribute__"=E0 (E0 (.Z4 "object.__getattribute__"))/\WU K (.J0 C) "__getattr__"=E0 H0
def AF:Prop:=∀x,pD x=I0->OA (.U0 "object") x=L4 H0
def aD(B:Bs)(T:mI):Prop:=∀c k,UF c=.O2 k->PI=R0->Ly (jY B c k)
theorem Uu{x:u0}(h:pD x=I0):vc x≠0:=by
 unfold pD at h;simp -w4 only[N5,FP]at h;exact tA h.2
theorem Vu{T:mI}{c:C0}{k:Cl}(h:JQ T c=E0 k):UF c=.O2 k/\PI=R0:=by
 unfold JQ at h;generalize e:UF c=t at h ⊢;cases t using rZ with
 |O2 k'=>
  cases hk:k'.wq with
  |I0=>have h:(bif k'.wq then H0 else E0 k')=E0 k:=h;rw[hk]at h;contradiction
  |R0=>have h:(bif k'.wq then H0 else E0 k')=E0 k:=h;rw[hk]at h;obtain O:=I3 h;exact⟨O,hk⟩
 |_=>contradiction
theorem Wu{T:mI}{c x:C0}(h:aO T c x=I0):∃k,JQ T c=E0 k/\I4 x QI=H0:=by
 unfold aO at h;generalize JQ T c=o at h ⊢;cases o using i9 with
 |H0=>contradiction
 |E0 k=>
  refine⟨k,O,?_⟩;have h:(match I4 x QI with|H0=>I0|_=>R0)=I0:=h;generalize I4 x QI=q at h ⊢;cases q using i9 with
  |H0=>rfl
  |E0 _=>contradiction
theorem b40{T:mI}{c x a:C0}(h:EY T c x=E0 a):∃k,JQ T c=E0 k/\I4 x QI=E0 (.Y0 a):=by
 unfold EY at h;generalize JQ T c=o at h ⊢;cases o using i9 with
 |H0=>contradiction
 |E0 k=>
  refine⟨k,O,?_⟩;have h:(match I4 x QI with|E0 (.Y0 a)=>E0 a|_=>H0)=E0 a:=h;generalize I4 x QI=q at h ⊢;cases q using i9 with
  |H0=>contradiction
  |E0 p=>
   cases p using Q3 with
   |Y0 b=>obtain O:=I3 h;rfl
   |_=>contradiction
section
variable{c:Nat}{k:Cl}(X:jY B c k)
include X
theorem jY.q8(g:J1 B A G s):F3 c=E0 (PP X.nm X.q c X.N X.bs [.U0 "object"] I0 X.sn Jo R0 X.YJ X.dd X.k0 X.k1 X.k2 X.k3 X.k5 "object.__new__"):=VB _ _ X.o9 X.Oj (by simp -w4) (by simp -w4)
end
structure Xu(G:Gh)(s:D1)(i c d:C0)(l:PV)(V2:P0 (u0×K0))(o:D4):Prop where
 lt:i<J3
 w7:F3 (Y2 i)=E0 (F_ c (Y2 d))
 ltd:d<J3
 od:F3 (Y2 d)=E0 o
 c40:H4=.U0 "dict"
 ns:W0.Sm (Y2 d) (uF V2)
 ax:(lN (·.1)).JD
 rel:U8 G W0 l V2
 ne:Y2 d≠Y2 i
 di:d≠i
theorem Pz(g:J1 B A G s){i c d:C0}(hi:i<J3)(hx:P3 i=.w7 c d){l:PV}(hd:P3 d=.W6 l):∃V2 o,Xu G s i c d l V2 o:=by
 symm;have ob:=HA i hi;rw[hx]at ob;obtain⟨e,UO,_⟩:=ob;have od:=HA d UO;rw[hd]at od;obtain⟨V2,o,eo,hc,hn,nd,r⟩:=od;ext;have di:d≠i:=λ q=>by subst q;rw[hx]at hd;contradiction
 exact⟨V2,o,hi,e,UO,eo,hc,hn,nd,r,λ q=>di (UG d i UO hi (by rw[hd];simp -w4) (by rw[hx];simp -w4) q),di⟩
theorem Xu.I{i c d:C0}{l:PV}{V2:P0 (u0×K0)}{o:D4}(R:Xu G s i c d l V2 o):W0.Inst (Y2 i) c (uF V2):=
 ⟨_,Sg,O,λ _=>by simp -w4,.L2 ⟨_,O,R.ne,R.ns⟩⟩
theorem XK0{h:O1}{a:H1}{m:u0->Q1 K0}{o:D4}(x:bU a m)(e:C3 a=E0 o)(W2:u0):lookIn W2 o=E0 (m W2):=by
 obtain⟨o',es,ep,e',d,sk,_,f⟩:=x;rw[e]at e';obtain O:=I3 e';have jo:es.bE.K4 (·.cm)=R0:=by
  rw[E90];intro e he;obtain⟨n,t,h⟩:=sk e (by simpa -w4 using he);simp -w4 [YN.cm,h]
 unfold lookIn;rw[d];have hf:=f W2;unfold fm at hf;dsimp only;rw[<-hf];obtain⟨l⟩:=es;have YK0:l.K4 (·.cm)=R0:=jo;unfold nA0;simp -w4 only[AU0];cases hx:l.find? (·.U7.Qz W2)with
 |H0=>rw[YK0];simp
 |E0 e=>simp
theorem Yu{h:O1}{p:PV}{v:K0}(r:H3 G h p v):vV0 v=L4 v:=by
 cases p using Q3 with
 |H0=>cases r;rfl
 |O3=>cases r;rfl
 |j0=>obtain⟨_,O⟩:=r;rfl
 |Z0=>obtain⟨_,_,_,O,_⟩:=r;rfl
 |EG=>obtain⟨_,_,O,_⟩:=r;rfl
 |Q0=>obtain⟨_,_,_,O,_⟩:=r;rfl
 |J0=>obtain⟨_,O⟩:=r;rfl
 |Y0=>cases r;rfl
 |ty i=>obtain⟨_,r⟩:=r;revert r;cases J5 i<;>(intro r;obtain⟨_,_,_,O,_⟩:=r;rfl)
 |wr i=>obtain⟨_,r⟩:=r;revert r;cases J5 i<;>(intro r;obtain⟨_,_,_,O,_⟩:=r;rfl)
 |pC i=>obtain⟨_,r⟩:=r;obtain⟨_,_,_,O,_⟩:=r;rfl
 |B0=>exact YI
 |A0=>exact YI
 |kv=>exact YI
theorem ZK0{T:mI}(CT:aD B T)(ON:AF){x:u0}(hx:pD x=I0){o:PV}{v:K0}{ex:I1}(g:J1 B A G s)(r:H3 G W0 o v):V4 B RV F A (xt T o (vc x)) (ix v x ex) G s:=by
 have wI:=Uu hx;intro P X M0;cases o using Q3 with
 |J0 i=>
  symm;obtain⟨hi,O⟩:=r;change(X10 T (vc x) (.J0 i) (P3 i) R1).P1 P X at M0;cases ei:P3 i with
  |w7 c d=>
   rw[ei]at M0;change(W10 T c (vc x) (.J0 i) (P3 d) R1).P1 P X at M0;cases ed:P3 d with
   |W6 l=>
    rw[ed]at M0;obtain⟨V2,od,R⟩:=Pz g hi ei ed;change((match I4 (vc x) l with|E0 v=>bif aO T c (vc x)then W1 v else F2 35|H0=>V10 T (vc x) (.J0 i) (.w7 c 0)) R1).P1 P X at M0;rcases MT wI Rz with⟨q1,q2⟩|⟨p,u,q1,q2,ru⟩
    ·rw[q1]at M0;change((bif Y1 (vc x) DY then F1 (y5 34 (EY T c (vc x))) (λ a=>V9 (.bm a (.J0 i)))else F2 34) R1).P1 P X at M0;obtain⟨hf,M0⟩:=IG M0;have vo:=M6 hf;have xf:x=jc:=mO (vo.U2 (show DY=vc jc by decide +F7)) wI;obtain⟨a,ha,hP⟩:=u9 (j6 M0);obtain⟨k,hk,hm⟩:=b40 ha;obtain⟨ke,kx⟩:=Vu hk;obtain⟨X'⟩:=CT c k ke kx;rw[vo]at hm;obtain⟨K,kin,h1,h2,h3,h4,h5,h6,h7⟩:=X'.S6 a hm;have KI:=kin _ VB;subst xf;have IA:InstAt W0 (Y2 i) (F_ c (Y2 d)) c (E0 od):=⟨Sg,O,O,R.od⟩;ext;refine get_bind KI IA h6 (findObj_fn h1 h2 h4 h5 (by decide +F7) (by rw[XK0 R.ns R.od,q2])) h7 ?_;refine xZ (fn_get (s:={s with B4:=X4+1}) KI h3 (wV0 O ?_));obtain⟨g',st⟩:=g.y6 (o:=.bm a (.J0 i)) (ob:=qV0 (.J0 a) (.J0 (Y2 i))) (tk:=X4+1) ⟨.J0 (Y2 i),DA _ O,⟨xT hi,H6 x6 (w3 (ZC hi)).Z3⟩⟩;exact wN (R:=RV) (a:=.J0 J3) (zH st) g' ⟨TD _,H6 x6 (y3 O).Z3⟩ hP
    ·rw[q1]at M0;change((bif aO T c (vc x)then W1 p else F2 35) R1).P1 P X at M0;obtain⟨hm,M0⟩:=IG M0;obtain⟨k,hk,hl⟩:=Wu hm;obtain⟨ke,kx⟩:=Vu hk;obtain⟨X'⟩:=CT c k ke kx;obtain⟨hh,gg,dd,tt,os⟩:=s;ext;exact xV0 (KX g) (AX _ VB) Sz (V00 x wI hl) (ON x hx) R.I q2 (Yu ru) (jU (R:=RV) g _ ru M0)
   |_=>
    ext;rw[ed]at M0;exact C4
  |_=>
   ext;rw[ei]at M0;exact C4
 |_=>exact C4
end
end
section
set_option linter.unusedSimpArgs false
section
theorem Zu{M:YB}{A:C6}{s:D1}{a:H1}{m:u0->Q1 K0}{W2:u0}{v:K0}{Q:T7->D1->Prop}{E:K0->D1->Prop}(hn:W0.Sm a m)
  (h:∀h',se a (λ x=>if x=W2 then E0 v else m x)->WA a W0 h'->(∀o,F3 a=E0 o->∃o',D3 a=E0 o'/\YK=H4)->Q () {s with B3:=h',B4:=X4+1}):
  V0 M A (Jz a W2 v) Q E s:=by
 intro Γ p bg;have U7:=wpAny_nsSet1 (M:=M) (A:=A) (E:=E) (Q:=λ _ s'=>U6.Sm a (λ x=>if x=W2 then E0 v else m x)/\WA a W0 U6) (W2:=W2) (v:=v) hn (λ h' h1 h2=>⟨h1,h2⟩) Γ p bg;rw[j30 hn.ns]at U7 ⊢;obtain⟨k0,k1,k2⟩:=U7;refine⟨k0,h _ k1 k2 λ o e=>?_⟩;obtain⟨o',_,_,e',_⟩:=id k1;refine⟨o',e',?_⟩;have e1:=(Fr e').1;have e2:=(Fr e).1;have:(UL a (pd W2 (db M.O5 W2) (.Z0 W2 X4) v)).SC[a]?=E0 (pd W2 (db M.O5 W2) (.Z0 W2 X4) v o):=by
  generalize W0=hp at e2 ⊢;cases hp;simp only[O1.JF,gT0,sW];simp only at e2;rw[e2];rfl
 rw[J2]at e1;obtain O:=I3 e1;exact i30 ..
section
variable{prog:Program}{w:World}{A:Around}{E:Value->Shared->Prop}{h:Heap}{g:Array GenState}{d:Drawn}{t:Nat}{os:OsState}
variable{nm q:Str}{C N x dx:Addr}{bs bm:List Value}{sn:List Str}{sub:List Value}{ab:Bool}{col:Option Bool}{dd:Option Addr}{k0 k1 k2 k3 k5:Option Value}{Bs newId sa owner:String}
 {mN m:Str->Option Value}{name:Str}{v:Value}{o:Obj}
theorem aK0{tk:P6}{Q:jH->D1->Prop}{ns:P0 u0}(SF:l90 Bs bm sa Uz)
  (hC:C3 C=E0 (PP nm q C N bs bm I0 sn w0 ab YJ dd k0 k1 k2 k3 k5 newId))(hn:eH N mN)(eg:mN W2=H0)
  (hB:OA (.U0 Bs) W2=L4 H0)(hx:C3 x=E0 o)(hc:H4=.J0 C)(ig:uU=E0 dx)(cG:bU dx m)
  (hq:∀h' PD,se dx (λ y=>if y=W2 then E0 v else m y)->WA dx h h'->(∀o,C3 dx=E0 o->∃o',D3 dx=E0 o'/\YK=H4)->Q (.ND (.U1 .H0)) ⟨h',g,d,PD,os⟩)(hw:XU m ns)(Z7:NK<=aA):
  V0 (U4 L3 w) A (MA.«object.__setattr__» ⟨[.J0 x,.Z0 W2 tk,v],[]⟩) Q E ⟨h,g,d,t,os⟩:=by
 have Of:=w90 (.J0 x);unfold MA.«object.__setattr__»
 repeat (first|rw[x90]|(rw[lk,Of])|(with_reducible refine yA hx ?_;rw[hc])|with_reducible refine Pt hC ?_|(with_reducible refine a80 hC hn SF.Wg hB ?_;rw[eg])|wp_step)
 rw[ig];refine E2 ?_;show V0 _ _ (MA.ObjectAttr.X90 dx (.Z0 W2 tk) W2 v) _ _ _;refine S0 (E2 (S0 (Zu cG λ h' JM hs dG=>?_)));obtain⟨oD,esD,epD,qV,qc,rV⟩:=RA0 (XU.A0 W2 v hw);refine S0 (r80 qV (by rw[qc];exact s80 (X6 rV (by rw[GJ];omega))) ?_)
 wp_walk
 exact hq h' _ JM hs dG
theorem bK0{tk:P6}{R:BM->D1->Prop}{ns:P0 u0}(SF:l90 Bs bm sa Uz)
  (hC:C3 C=E0 (PP nm q C N bs bm I0 sn w0 ab YJ dd k0 k1 k2 k3 k5 newId))(hn:eH N mN)(eg:mN W2=H0)
  (hB:OA (.U0 Bs) W2=L4 H0)(hx:C3 x=E0 o)(hc:H4=.J0 C)(ig:uU=E0 dx)(cG:bU dx m)
  (hq:∀h' PD,se dx (λ y=>if y=W2 then E0 v else m y)->WA dx h h'->(∀o,C3 dx=E0 o->∃o',D3 dx=E0 o'/\YK=H4)->R (.ok (.U1 .H0)) ⟨h',g,d,PD,os⟩)(hw:XU m ns)(Z7:NK<=aA):
  JC (U4 L3 w) A (.K2 (.Z4 sa) ⟨[.J0 x,.Z0 W2 tk,v],[]⟩) R ⟨h,g,d,t,os⟩:=
 mi TU.xF KA0 (wpAny_check_sa SF hC hx hc (aK0 SF hC hn eg hB hx hc ig cG hq hw Z7))
theorem cK0{Q:T7->D1->Prop}{ns:P0 u0}(SF:l90 Bs bm sa Uz)
  (hC:C3 C=E0 (PP nm q C N bs bm I0 sn w0 ab YJ dd k0 k1 k2 k3 k5 newId))(hn:eH N mN)(hsa:mN "__setattr__"=H0)(eg:mN W2=H0)
  (hB:OA (.U0 Bs) W2=L4 H0)(hx:C3 x=E0 o)(hc:H4=.J0 C)(ig:uU=E0 dx)(cG:bU dx m)
  (hq:∀h' PD,se dx (λ y=>if y=W2 then E0 v else m y)->WA dx h h'->(∀o,C3 dx=E0 o->∃o',D3 dx=E0 o'/\YK=H4)->Q () ⟨h',g,d,PD,os⟩)(hw:XU m ns)(Z7:NK<=aA):
  V0 (U4 L3 w) A (VW (.J0 x) W2 v) Q E ⟨h,g,d,t,os⟩:=by
 have f3:=TU.S6 (.J0 x)
 repeat (any_goals (first|assumption|(with_reducible refine yA hx ?_;rw[hc])|(with_reducible refine a80 hC hn SF.Wg TU.e9 ?_;rw[hsa])|wp_step))
 refine bK0 SF hC hn eg hB hx hc ig cG (λ h' PD h1 h2 h3=>?_) hw Z7
 repeat (any_goals (first|assumption|wp_step))
 exact hq h' PD h1 h2 h3
end
end
end
section
variable{B:Bs}{A:Around}{G:Gh}{s:Shared}{F:Addr->Prop}
noncomputable abbrev RU:Gh->O1->T7->T7->Prop:=λ _ _ _ _=>rP
theorem au{x:u0}{v:K0}:∀{V2:P0 (u0×K0)},(lN (·.1)).JD->((QJ V2 x v).Y4 (·.1)).JD/\(∀y∈(QJ V2 x v).Y4 (·.1),y=x\/y∈lN (·.1)):=by
 intro zq;induction zq with
 |B0=>
  intro _;exact⟨by rw[Au];simp,λ y h=>by rw[Au]at h;simp at h;exact .S2 h⟩
 |A0 pq q ih=>
  intro hn;obtain⟨y,u⟩:=pq;rw[FU,JP]at hn;rw[Bu hn.1];obtain⟨h1,h2⟩:=ih hn.2;by_cases e:y=x
  ·subst e;rw[y3 O];refine⟨by rw[FU,JP];exact hn,λ z hz=>?_⟩;exact .L2 hz
  ·rw[w3 e];refine⟨?_,λ z hz=>?_⟩
   ·rw[FU,JP];refine⟨λ hy=>?_,h1⟩;rcases h2 y hy with r|r
    ·exact e r
    ·exact hn.1 r
   ·rw[FU,uD]at hz;rcases hz with r|r
    ·exact .L2 (by rw[r];exact aE ..)
    ·rcases h2 z r with r|r
     ·exact .S2 r
     ·exact .L2 (AC _ r)
theorem dK0{x y:u0}{v:K0}:∀{V2:P0 (u0×K0)},(lN (·.1)).JD->uF (QJ V2 x v) y=if y=x then E0 v else uF V2 y:=by
 intro zq;induction zq with
 |B0=>
  intro _;rw[Au,JT];by_cases e:y=x
  ·rw[y3 e,y3 td]
  ·rw[w3 e,w3 (H9 e)]
 |A0 pq q ih=>
  intro hn;obtain⟨z,u⟩:=pq;rw[FU,JP]at hn;rw[Bu hn.1,JT];by_cases e:z=x
  ·subst e;rw[y3 O,JT];by_cases h:z=y
   ·rw[y3 h,y3 PJ]
   ·rw[w3 h,w3 h,w3 (H9 h)]
  ·rw[w3 e,JT,ih hn.2];by_cases h:z=y
   ·rw[y3 h,w3 (λ q=>e (h.U2 q)),y3 h]
   ·rw[w3 h,w3 h]
theorem eK0{V2:P0 (u0×K0)}{y:u0}(h:uF V2 y≠H0):y∈lN (·.1):=by
 induction V2 with
 |B0=>exact U3 O h
 |A0 e q ih=>
  obtain⟨z,u⟩:=e;rw[JT]at h;by_cases e:z=y
  ·rw[e];exact aE ..
  ·rw[w3 e]at h;exact AC _ (ih h)
theorem bu(CT:aD B T){c:C0}{k:Cl}(h:JQ T c=E0 k):Ly (jY B c k):=by obtain⟨e,x⟩:=Vu h;exact CT c k e x
theorem fK0{FZ:C0->I1}{T:mI}(CT:aD B T)(ON:AF){x:u0}(hx:pD x=I0){o p:PV}{v u:K0}(g:J1 B A G s)(r:H3 G W0 o v)(rp:H3 G W0 p u):
  V4 B RU F A (ar FZ T o (vc x) p) (VW v x u) G s:=by
 have wI:=Uu hx;intro P X M0;cases o using Q3 with
 |J0 i=>
  symm;obtain⟨hi,O⟩:=r;change(Z10 FZ T (vc x) p (P3 i) R1).P1 P X at M0;cases ei:P3 i with
  |w7 c d=>
   rw[ei]at M0;change(Y10 FZ T c d (vc x) p (P3 d) R1).P1 P X at M0;cases ed:P3 d with
   |W6 l=>
    rw[ed]at M0;obtain⟨V2,od,R⟩:=Pz g hi ei ed;change((bif aO T c (vc x)then(bif I5 l then ME FZ d (.W6 (A6 (vc x) p l))else F2 36)else F2 36) R1).P1 P X at M0;obtain⟨hm,M0⟩:=IG M0;obtain⟨hs,M0⟩:=IG M0;change((bif FZ d then F2 29 else wW d (.W6 (A6 (vc x) p l))) R1).P1 P X at M0;cases hz:FZ d with
    |I0=>
     ext;rw[hz]at M0;exact C4
    |R0=>
     rw[hz]at M0;obtain⟨k,hk,hl⟩:=Wu hm;obtain⟨X'⟩:=bu CT hk;have fH:=Gu Rz hs;obtain⟨hh,gg,dd,tt,os⟩:=s;ext;refine cK0 (ns:=lN (·.1)) (v:=u) c8.store_object (KX g) (AX _ VB) X'.sa (V00 x wI hl) (ON x hx) Sg O O R.ns (λ h' PD JM yJ dG=>?_) (λ y hy=>eK0 hy) (by rw[Hk,LI];exact KM ‹_› O);symm;have iX:se (Y2 d) (uF (QJ V2 x u)):=by
      have:(λ y=>if y=x then E0 u else uF V2 y)=uF (QJ V2 x u):=im λ y=>(dK0 R.ax).Z3;rw[<-J2];exact JM
     obtain⟨o',e',c'⟩:=dG _ R.od;have kb:=lL;have tk:CC F5 hh h':=λ b vs n _ e=>kb _ _ (by rintro O;rw[R.od]at e;obtain O:=I3 e;exact U3 R.c40 (by simp)) e;have U7:zE B (gI d (.W6 (A6 (vc x) p l))) h' (Y2 d) (.W6 (A6 (vc x) p l)):=
      ⟨QJ V2 x u,o',e',c'.U2 R.c40,iX,(au R.ax).1,L00 (kn d _) tk (Wc wI rp R.ax Rz)⟩
     obtain⟨g',st⟩:=g.Km (h':=h') (tk:=PD) (i:=d) (o:=.W6 (A6 (vc x) p l)) R.ltd (by rw[ed];simp) (by simp) (λ _ _=>⟨_,O⟩) (λ b o hb e=>kb b o hb e) U7;ext;exact .at (a:=()) (zH st) g' FE M0
   |_=>
    ext;rw[ed]at M0;exact C4
  |_=>
   ext;rw[ei]at M0;exact C4
 |_=>exact C4
end
section
section
variable{B:Bs}{A:Around}{G:Gh}{s:Shared}{F:Addr->Prop}
def uc:Mt->V6
 |.VI=>"list.append"|.jK=>"list.pop"|.pN=>"list.extend"|.o9=>"dict.get"|.LU=>"dict.setdefault"|.JF=>"dict.update"|.sP=>"str.join"|.nR=>"str.split"|.K5=>""
def RM(m:Mt)(v:K0):Gh->O1->PV×PV->K0×P0 K0->Prop:=λ G h p q=>
 (p.1=.H0/\q=(.Z4 (uc m),[v]))\/(p.1≠.H0/\H3 G h p.1 q.1/\A4 G h p.2 q.2)
theorem eu{x:u0}:∀{m:Mt},JG x=m->m≠.K5->(m=.VI/\x="append")\/(m=.jK/\x="pop")\/(m=.pN/\x="extend")\/(m=.o9/\x="get")\/(m=.LU/\x="setdefault")\/
  (m=.JF/\x="update")\/(m=.sP/\x="join")\/(m=.nR/\x="split"):=by
 intro m h hm;unfold JG at h;cases h1:x==("append":u0)with
 |I0=>rw[h1]at h;exact .S2 ⟨PJ,dD h1⟩
 |R0=>
 rw[h1]at h;cases h2:x==("pop":u0)with
 |I0=>rw[h2]at h;exact .L2 (.S2 ⟨PJ,dD h2⟩)
 |R0=>
 rw[h2]at h;cases h3:x==("extend":u0)with
 |I0=>rw[h3]at h;exact .L2 (.L2 (.S2 ⟨PJ,dD h3⟩))
 |R0=>
 rw[h3]at h;cases h4:x==("get":u0)with
 |I0=>rw[h4]at h;exact .L2 (.L2 (.L2 (.S2 ⟨PJ,dD h4⟩)))
 |R0=>
 rw[h4]at h;cases h5:x==("setdefault":u0)with
 |I0=>rw[h5]at h;exact .L2 (.L2 (.L2 (.L2 (.S2 ⟨PJ,dD h5⟩))))
 |R0=>
 rw[h5]at h;cases h6:x==("update":u0)with
 |I0=>rw[h6]at h;exact .L2 (.L2 (.L2 (.L2 (.L2 (.S2 ⟨PJ,dD h6⟩)))))
 |R0=>
 rw[h6]at h;cases h7:x==("join":u0)with
 |I0=>rw[h7]at h;exact .L2 (.L2 (.L2 (.L2 (.L2 (.L2 (.S2 ⟨PJ,dD h7⟩))))))
 |R0=>
 rw[h7]at h;cases h8:x==("split":u0)with
 |I0=>rw[h8]at h;exact .L2 (.L2 (.L2 (.L2 (.L2 (.L2 (.L2 ⟨PJ,dD h8⟩))))))
 |R0=>rw[h8]at h;exact U3 PJ hm
section
variable{M:Model}{E:Value->Shared->Prop}{pl:Sem Bool}{Q:Value×List Value->Shared->Prop}
theorem gK0{m:Mt}{a:H1}{vs:P0 K0}{n:C0}{x:u0}(hm:Lq m=I0)(e:JG x=m)(ho:F3 a=E0 (qB vs n))(h:Q (.Z4 (uc m),[.J0 a]) s):V0 M A (Te (.J0 a) x pl) Q E s:=by
 have hT:fC (.J0 a) "list":=⟨_,ho,O⟩;have hd:∀b,x6 a=.J0 b->∃o,F3 b=E0 o/\uU=H0:=λ b e=>by cases e;exact⟨_,ho,O⟩
 rcases eu e (by rintro O;contradiction)with⟨O,O⟩|⟨O,O⟩|⟨O,O⟩|⟨O,O⟩|⟨O,O⟩|⟨O,O⟩|⟨O,O⟩|⟨O,O⟩<;>first|(cases hm;done)|skip
 ·have h:Q (.Z4 "list.append",[.J0 a]) s:=h
  with_reducible exact xa hT o80 F.YT0 F.type_list_append hd h
 ·have h:Q (.Z4 "list.pop",[.J0 a]) s:=h
  with_reducible exact xa hT o80 kT0 F.type_list_pop hd h
 ·have h:Q (.Z4 "list.extend",[.J0 a]) s:=h
  with_reducible exact xa hT o80 l80 F.type_list_extend hd h
theorem hK0{m:Mt}{a:H1}{V2:P0 (u0×K0)}{x:u0}(hm:Mq m=I0)(e:JG x=m)(ho:W0.WR (GD gE oE) a V2)(h:Q (.Z4 (uc m),[.J0 a]) s):V0 M A (Te (.J0 a) x pl) Q E s:=by
 have hT:fC (.J0 a) "dict":=ho.mapOf.AD;have hd:=ho.mapOf.noDict;rcases eu e (by rintro O;contradiction)with⟨O,O⟩|⟨O,O⟩|⟨O,O⟩|⟨O,O⟩|⟨O,O⟩|⟨O,O⟩|⟨O,O⟩|⟨O,O⟩<;>first|(cases hm;done)|skip
 ·have h:Q (.Z4 "dict.get",[.J0 a]) s:=h
  with_reducible exact xa hT p80 lT0 F.type_dict_get hd h
 ·have h:Q (.Z4 "dict.setdefault",[.J0 a]) s:=h
  with_reducible exact xa hT p80 pS0 F.type_dict_setdefault hd h
 ·have h:Q (.Z4 "dict.update",[.J0 a]) s:=h
  with_reducible exact xa hT p80 FT0 F.type_dict_update hd h
theorem iK0{m:Mt}{y:u0}{t:P6}{x:u0}(hm:Kq m=I0)(e:JG x=m)(h:Q (.Z4 (uc m),[.Z0 y t]) s):V0 M A (Te (.Z0 y t) x pl) Q E s:=by
 rcases eu e (by rintro O;contradiction)with⟨O,O⟩|⟨O,O⟩|⟨O,O⟩|⟨O,O⟩|⟨O,O⟩|⟨O,O⟩|⟨O,O⟩|⟨O,O⟩<;>first|(cases hm;done)|skip
 ·have h:Q (.Z4 "str.join",[.Z0 y t]) s:=h
  with_reducible exact GM.sP h
 ·have h:Q (.Z4 "str.split",[.Z0 y t]) s:=h
  with_reducible exact GM.nR h
end
theorem jK0{T:mI}(CT:aD B T)(ON:AF){x:u0}(hx:pD x=I0){o:PV}{v:K0}{pl:Y7 I1}(g:J1 B A G s)(r:H3 G W0 o v):
  V4 B (RM (JG x) v) F A (j10 T (JG x) (vc x) o) (Te v x pl) G s:=by
 have wI:=Uu hx;intro P X M0;cases o using Q3 with
 |Z0 n=>
  obtain⟨_,y,t,O,_⟩:=r;change((bif Kq (JG x)then W1 (SH,mP)else F2 57) R1).P1 P X at M0;obtain⟨hs,M0⟩:=IG M0;refine iK0 (m:=JG x) hs O ?_;exact(.EB (R:=RM _ _) (a:=(SH,mP)) g (.S2 ⟨O,O⟩) M0)
 |J0 i=>
  obtain⟨hi,O⟩:=r;change(i10 T (JG x) (vc x) (.J0 i) (P3 i) R1).P1 P X at M0;have ob:=HA i hi;generalize ei:P3 i=zo at M0;cases zo using FA with
  |M1 l=>
   rw[ei]at ob;obtain⟨vs,k,e,_⟩:=ob;change((bif Lq (JG x)then W1 (SH,mP)else F2 57) R1).P1 P X at M0;obtain⟨hs,M0⟩:=IG M0;refine gK0 (m:=JG x) hs O e ?_;exact(.EB (R:=RM _ _) (a:=(SH,mP)) g (.S2 ⟨O,O⟩) M0)
  |H2 l=>
   rw[ei]at ob;obtain⟨V2,e,_⟩:=ob;change((bif Mq (JG x)then W1 (SH,mP)else F2 57) R1).P1 P X at M0;obtain⟨hs,M0⟩:=IG M0;refine hK0 (m:=JG x) hs O e ?_;exact(.EB (R:=RM _ _) (a:=(SH,mP)) g (.S2 ⟨O,O⟩) M0)
  |w7 c d=>
   change(c10 T (vc x) c (.J0 i) (P3 d) R1).P1 P X at M0;generalize ed:P3 d=zo at M0;cases zo using FA with
   |W6 l=>
    obtain⟨V2,od,R⟩:=Pz g hi ei ed;change((match I4 (vc x) l with
     |E0 g=>bif aO T c (vc x)then(bif fE g then F2 56 else W1 (g,mP))else F2 56
     |A2=>F1 (y5 56 (EY T c (vc x))) λ a=>W1 (wA0 a,QB0 (.J0 i) .B0)) R1).P1 P X at M0
    rcases MT wI Rz with⟨q1,q2⟩|⟨p,u,q1,q2,ru⟩
    ·rw[q1]at M0;obtain⟨a,ha,hP⟩:=u9 (j6 M0);obtain⟨k,hk,hm⟩:=b40 ha;obtain⟨X'⟩:=bu CT hk;obtain⟨m1,m2,of_,m3,m4⟩:=X'.Sb x a wI hm;have g0:=g;obtain⟨hh,gg,dd,tt,os⟩:=s;refine method_of (KX g) (AX _ VB) Sz X'.gh m1 (VB _ _ m3 m2 (by rw[m4];decide) (by rw[m4];decide)) m4 (ON x hx) R.I q2 ?_;exact .EB (R:=RM _ _) (a:=(wA0 a,QB0 (.J0 i) .B0)) g0 (.L2 ⟨by simp,O,_,_,O,⟨hi,O⟩,O⟩) hP
    ·rw[q1]at M0;change((bif aO T c (vc x)then(bif fE p then F2 56 else W1 (p,mP))else F2 56) R1).P1 P X at M0;obtain⟨hm,M0⟩:=IG M0;change((bif fE p then F2 56 else W1 (p,mP)) R1).P1 P X at M0;cases hp:fE p with
     |I0=>rw[hp]at M0;exact C4
     |R0=>
      rw[hp]at M0;obtain⟨k,hk,hl⟩:=Wu hm;obtain⟨X'⟩:=bu CT hk;have g0:=g;obtain⟨hh,gg,dd,tt,os⟩:=s;refine S0 (b80 Sg O (KX g) (AX _ VB) Sz h90 c8.lk_object_ga ?_);show V0 _ _ (if(GT0 "object.__getattribute__"!="object.__getattribute__")=I0 then _ else _) _ _ _;refine S0 (b80 Sg O (KX g) (AX _ VB) X'.gh h90 c8.lk_object_getattr ?_);refine S0 (b80 Sg O (KX g) (AX _ VB) (V00 x wI hl) h90 (ON x hx) ?_);refine S0 (xV0 (KX g) (AX _ VB) Sz (V00 x wI hl) (ON x hx) R.I q2 (Yu ru) (E2 ?_));obtain⟨g',st⟩:=g0.B4 (tt+1);exact .at (R:=RM _ _) (a:=(p,mP)) (zH st) g' (.L2 ⟨(by rintro O;contradiction),SK st,O⟩) M0
   |_=>exact C4
  |_=>exact C4
 |_=>exact C4
end
end
section
section
variable{B:Bs}{A:Around}{G:Gh}{s:Shared}{F:Addr->Prop}
section
variable{prog:Program}{w:World}{E:Value->Shared->Prop}{h:Heap}{g:Array GenState}{d:Drawn}{t:Nat}{os:OsState}
variable{nm q:Str}{C N:Addr}{bs:List Value}{sn:List Str}{sub:List Value}{col:Option Bool}{dd:Option Addr}{k0 k1 k2 k3 k5:Option Value}
noncomputable abbrev wc(h:O1)(C:H1):O1:=(rN {O2:=.U0 "dict",M3:=.H2 #[]}).y6 (F_ C o8)
theorem kK0{mN:u0->Q1 K0}{J4:P0 K0}{fI:H1}{oI:D4}{Q:jH->D1->Prop}
  (hC:C3 C=E0 (PP nm q C N bs [.U0 "object"] I0 sn w0 R0 YJ dd k0 k1 k2 k3 k5 "object.__new__"))(hn:eH N mN)(hi:mN "__init__"=E0 (.J0 fI))
  (LS:C3 fI=E0 oI)(jX:uz=.U0 "function")
  (hq:V0 (U4 L3 w) A (K2 (.J0 fI) (.J0 (o8+1)::J4)) (λ r s'=>r=.H0/\Q (.ND (.U1 (.J0 (o8+1)))) s') E ⟨wc h C,g,d,t,os⟩):
  V0 (U4 L3 w) A (MA.«type.__call__» ⟨.J0 C::J4,[]⟩) Q E ⟨h,g,d,t,os⟩:=by
 have FF:=c8.objNew;have lK0:mroOf (.U0 "object")=L4 [.U0 "object"]:=by kernel_rfl
 have hlk:OA (.U0 "object") "__init__"=L4 (E0 (.Z4 "object.__init__")):=by rw[kt,Qr];kernel_rfl
 repeat (first|with_reducible refine yA hC ?_|with_reducible refine t80 hC ?_|wp_step)
 refine hS0 (Rs _ FF.quiet) (wpAny_check_obj_new FF hC ?_);refine codeAny_obj_new FF hC hn hi ?_;show V0 _ _ _ _ _ _;have Qj:=T6 {O2:=.J0 C,H2:=E0 o8,M3:=.xF} (T6 {O2:=.U0 "dict",M3:=.H2 #[]} hC);have fu:=T6 {O2:=.J0 C,H2:=E0 o8,M3:=.xF} (T6 {O2:=.U0 "dict",M3:=.H2 #[]} LS);have hn₁:((rN {O2:=.U0 "dict",M3:=.H2 #[]}).y6 {O2:=.J0 C,H2:=E0 o8,M3:=.xF}).Ns N mN:=
  let⟨o,es,ep,e,r⟩:=hn;⟨o,es,ep,T6 _ (T6 _ e),r⟩
 have BG:((rN {O2:=.U0 "dict",M3:=.H2 #[]}).y6 {O2:=.J0 C,H2:=E0 o8,M3:=.xF}).X5 (o8+1)=E0 {O2:=.J0 C,H2:=E0 o8,M3:=.xF}:=by heap_get
 have jg:(x6 C::[aL "object"]).VG (.J0 C)=I0:=by simp
 unfold vw
 repeat (first|with_reducible refine yA BG ?_|(with_reducible refine GR Qj ?_;rw[jg])|wp_step)
 show V0 _ _ (OA (.J0 C) _) _ _ _;refine a80 Qj hn₁ lK0 hlk ?_;rw[hi];refine A8 (S0 ?_);refine S0 (OR (T:="function") ⟨_,fu,jX⟩ ?_);refine E2 (S0 (V3 hq (λ r s' hr=>?_) λ _ _ x=>x));obtain⟨O,hQ⟩:=hr
 wp_walk
 exact hQ
theorem mK0{mN:u0->Q1 K0}{J4:P0 K0}{fI:H1}{oI:D4}{Q:K0->D1->Prop}
  (hC:C3 C=E0 (PP nm q C N bs [.U0 "object"] I0 sn w0 R0 YJ dd k0 k1 k2 k3 k5 "object.__new__"))(hn:eH N mN)(hi:mN "__init__"=E0 (.J0 fI))
  (LS:C3 fI=E0 oI)(jX:uz=.U0 "function")
  (hq:V0 (U4 L3 w) (gR (.Z4 "type.__call__" ⟨.J0 C::J4,[]⟩)) (K2 (.J0 fI) (.J0 (o8+1)::J4)) (λ r s'=>r=.H0/\Q (.J0 (o8+1)) s') E ⟨wc h C,g,d,t,os⟩):
  V0 (U4 L3 w) A (K2 (.J0 C) J4) Q E ⟨h,g,d,t,os⟩:=by
 have f1:=yV0;have f2:=tc_bind (.J0 C);have hT:(⟨h,g,d,t,os⟩:D1).XV (.J0 C) "type":=⟨_,hC,O⟩;refine xZ (bZ ?_);show V0 _ _ (dA0 (.J0 C) _) _ _ _
 repeat (any_goals (first|assumption|with_reducible refine yA hC ?_|wp_step))
 refine⟨O,?_⟩;refine mS0 (Rs _ (by decide +F7)) BU0 (iS0 hC (kK0 hC hn hi LS jX ?_));exact hq
end
theorem O8.under{n:C0}{c:H1}{L1:P0 K0}(x:O8 (n+1) A):O8 n (gR (.Z4 "type.__call__" ⟨.J0 c::L1,[]⟩)):=
 ⟨C10,by have:=To;show fR+1+n+50<=_;exact ω40 ‹_›,by have:=So;show vL+1+8*n+500<=_;exact ω31 ‹_› O⟩
theorem d40{c:H1}{L1:P0 K0}:(gR (.Z4 "type.__call__" ⟨.J0 c::L1,[]⟩)).K80=dN:=O
theorem J1.nK0(g:J1 B A G s)(c:C0):
  J1 B A ((r7 (.W6 .B0) P2).SB (.w7 c J3) (P2+1)) {s with B3:=wc W0 c}/\
   A3 B N2 G s ((r7 (.W6 .B0) P2).SB (.w7 c J3) (P2+1)) {s with B3:=wc W0 c}/\
   H3 ((r7 (.W6 .B0) P2).SB (.w7 c J3) (P2+1)) (wc W0 c) (.J0 (J3+1)) (.J0 (P2+1)):=by
 have lg:(G8 {O2:=.U0 "dict",M3:=.H2 #[]}).X5 P2=E0 {O2:=.U0 "dict",M3:=.H2 #[]}:=TU0 O O;obtain⟨g1,C2⟩:=g.y6 (o:=.W6 .B0) (ob:={O2:=.U0 "dict",M3:=.H2 #[]}) (tk:=X4)
  ⟨[],_,lg,O,IV0 ⟨_,#[],_,lg,O,λ e he=>U3 he (by simp),λ _=>O⟩,ub,O⟩
 have sz:(G8 {O2:=.U0 "dict",M3:=.H2 #[]}).SC.L9=P2+1:=bD ..;have hgi:((G8 {O2:=.U0 "dict",M3:=.H2 #[]}).y6 (F_ c P2)).X5 (G8 {O2:=.U0 "dict",M3:=.H2 #[]}).SC.L9=E0 (F_ c P2):=DA _ O;have x:=g1.y6 (o:=.w7 c J3) (ob:=F_ c P2) (tk:=X4) (by
  refine⟨?_,xT (TD _),.B0,?_⟩
  ·have e:((r7 (.W6 .B0) P2).SB (.w7 c J3) (G8 {O2:=.U0 "dict",M3:=.H2 #[]}).SC.L9).ρ J3=P2:=by
    show(if J3=J3+1 then _ else(if J3=J3 then P2 else _))=_;rw[w3 (by omega),y3 O]
   rw[e];exact hgi
  ·rw[kE];show(if J3=J3+1 then _ else _)=_;rw[w3 (by omega),kE,y3 O])
 rw[sz]at x;refine⟨x.1,FC x.2,TD _,?_⟩;show x6 _=x6 (if J3+1=J3+1 then _ else _);rw[y3 O]
def rO(B:Bs)(n:C0)(E:C5):Prop:=
 ∀{A:C6}{G:Gh}{s:D1}{f L1:PV}{fv:K0}{vs:P0 K0},O8 n A->J1 B A G s->H3 G W0 f fv->A4 G W0 L1 vs->V4 B RV N2 A (E.K2 f L1) (X7 fv vs) G s
theorem oK0{n:C0}{ih:C5}(H:rO B n ih){c:C0}{k:Cl}(X':jY B c k)(hk:PI=R0)(D6:O8 (n+1) A)(gd:J1 B A G s){L1:PV}{L5:P0 K0}
  (r:A4 G W0 L1 L5):V4 B RV N2 A (Jb ih c k L1) (X7 (.J0 c) L5) G s:=by
 intro P X M0;unfold Jb at M0;rw[hk]at M0;change(F1 (Az .B0 (.w7 c)) (λ o=>F1 (Wf (.Y0 fP) (.A0 o L1)) λ v=>F1 (Jq v) λ _=>W1 o) R1).P1 P X at M0;obtain⟨i1,i2,of_,i3,i4⟩:=X'.E_;have hC:=KX gd;have hN:=AX _ IC;have hf:=IC _ _ i3 i2 (by rw[i4];decide) (by rw[i4];decide);obtain⟨g2,I2,rx⟩:=gd.nK0 c;obtain⟨hh,gg,dd,tt,os⟩:=s;refine mK0 hC hN i1 hf i4 ?_;have g3:J1 B (gR (.Z4 "type.__call__" ⟨.J0 c::L5,[]⟩)) _ _:=sZ g2 d40;have sn:=H (f:=.Y0 fP) (fv:=.J0 fP) D6.under g3 O (L1:=.A0 (.J0 (J3+1)) L1) (vs:=.J0 (YA+1)::L5) ⟨_,_,O,rx,WI (Hz.U2 (qU _ _) (Gh.BX0 _ _ _)) λ b vs k hb e=>vA _ _ _ _ (vA _ _ _ _ e)⟩;have B5:=j6 M0;change(F1 (Wf (.Y0 fP) (.A0 (.J0 (J3+1)) L1)) (λ v=>F1 (Jq v) λ _=>W1 (.J0 (J3+1))) ((qL (.W6 .B0)).SB (.w7 c J3))).P1 P X at B5;refine V3 (sn _ _ (j6 B5)) ?_ λ e s' Z2=>by obtain⟨G',i,st,g',xi,hx⟩:=Z2;exact⟨G',i,UP st,sZ g' O,xi,hx⟩
 intro v s' Z2;obtain⟨G',a,st,g',ra,hp⟩:=Z2;cases a using Q3 with
 |H0=>exact⟨ra,.at (R:=RV) (UP st) (sZ g' O) (OX st) hp⟩
 |_=>exact U00
end
end
section
section
open PyProof.Rows
variable{B:Bs}
structure G5(B:Bs)(n:C0)(A:C6)(N0:o6)(L:z5)(O0:PV)(G:Gh)(s:D1):Prop where
 D6:O8 n A
 es:wG A N0 L
 gd:J1 B A G s
 er:V5 B N0 D0 O0 G W0
section
variable{n:Nat}{A:Around}{cenv:Env}{L:Kinds}{env:PV}{G G':Gh}{s s':Shared}
theorem G5.K6(x:G5 B n A N0 L O0 G s)(st:A3 B N2 G s G' s')(g:J1 B A G' s'):G5 B n A N0 L O0 G' s':=⟨x.D6,x.es,g,x.HI st⟩
theorem G5.pred(x:G5 B (n+1) A N0 L O0 G s):G5 B n A N0 L O0 G s:=⟨x.D6.J9,x.es,x.gd,x.er⟩
theorem G5.cu(x:G5 B n A N0 L O0 G s):Cu A:=x.D6.cu
end
def z7(B:Bs)(g:C0->Q1 PV)(cl:C0->C0)(n:C0)(E:C5):Prop:=
 ∀{A:C6}{G:Gh}{s:D1}{N0:o6}{L:z5}{O0:PV}{k:C0}{e:C1},G5 B n A N0 L O0 G s->V4 B RV N2 A (E.B6 (cE g cl k L e) O0) (Q5 e N0) G s
def kQ(B:Bs)(g:C0->Q1 PV)(cl:C0->C0)(n:C0)(E:C5):Prop:=
 ∀{A:C6}{G:Gh}{s:D1}{N0:o6}{L:z5}{O0:PV}{k:C0}{e:C1},G5 B n A N0 L O0 G s->V4 B RT N2 A (OC E (cE g cl k L e) O0) (WH e N0 (Q5 e N0)) G s
def kY(n:C0):Gh->O1->PV->P0 K0->Prop:=λ G h p l=>A4 G h p l/\KJ=n
section
variable{g:Nat->Option PV}{cl:Nat->Nat}{n:Nat}{ih:C5}{FZ:Nat->Bool}{T:Tab}
variable{A:Around}{cenv:Env}{L:Kinds}{env:PV}{G:Gh}{s:Shared}{k:Nat}
theorem pK0(BF:S7 B g)(X:G5 B n A N0 L O0 G s){x:u0}{D2:T3}:V4 B RV N2 A (sE FZ T ih (NQ g L x) O0) (Q5 (.u3 x D2) N0) G s:=by
 unfold NQ;cases hn:A5 x with
 |R0=>exact FD
 |I0=>
  cases hl:n7 L x with
  |I0=>exact e30 MI ZB VR hn hl
  |R0=>
   cases hg:E7 L x with
   |R0=>exact FD
   |I0=>
    cases hp:g (vc x)with
    |H0=>exact FD
    |E0 p=>exact g30 BF MI ZB hn hg hp
theorem e40(c:Ef):bO c=.M2\/∃p,bO c=.v0 p:=by
 cases c with
 |Z0 s=>
  change(bif Y1 (vc s) 0 then j00 else .v0 (.Z0 (vc s)))=.M2\/∃p,(bif Y1 (vc s) 0 then j00 else .v0 (.Z0 (vc s)))=.v0 p;cases Y1 (vc s) 0 using o7 with
  |I0=>exact .S2 O
  |R0=>exact .L2 ⟨_,O⟩
 |H0|O3|j0=>exact .L2 ⟨_,O⟩
 |_=>exact .S2 O
theorem qK0(X:G5 B n A N0 L O0 G s){c:Ef}{j:C0}{D2:T3}:V4 B RV N2 A (sE FZ T ih (bO c) O0) (Q5 (.H8 c j D2) N0) G s:=by
 rcases e40 c with h|⟨p,h⟩
 ·rw[h];exact FD
 ·have:=Tx (F:=N2) (A:=A) (N0:=N0) ZB (k:=j) (D2:=D2) h;rw[h];exact J2
theorem zI{e:C1}(h:Q8 e=I0)(r:P0 C1)(N0:o6):SU (e::r) N0=(R0,Q5 e N0)::SU r N0:=by
 cases e using j9<;>first|rfl|contradiction
theorem Rj{f:C1->C}{e:C1}(h:Q8 e=I0)(r:P0 C1):R8 f (e::r)=.A0 (f e) (R8 f r):=by
 cases e using j9<;>first|rfl|contradiction
theorem Sj{f:C1->C}{e:C1}(h:Q8 e=R0)(r:P0 C1):R8 f (e::r)=.M2:=by
 cases e using j9<;>first|rfl|contradiction
theorem Tj(H:z7 B g cl n ih):∀{es:P0 C1}{D2:T3}{G:Gh}{s:D1},G5 B n A N0 L O0 G s->V4 B (kY Yn) N2 A (ZM ih O0 (R8 (cE g cl k L) es)) (Vy (J_ D2 (SU es N0))) G s:=by
 intro es;induction es with
 |B0=>exact λ X P Q M0=>JJ (.EB (R:=kY 0) (a:=.B0) ZB ⟨O,O⟩ M0)
 |A0 e r ih1=>
  intro D2 G s X P Q M0;cases he:Q8 e with
  |R0=>rw[Sj he]at M0;exact C4
  |I0=>
   rw[Rj he]at M0;rw[zI he];refine zD ((H (k:=k) (e:=e) X).s8 M0 λ G1 s1 v w C2 g1 r1 E4=>?_);refine(ih1 (D2:=D2) (KC C2 g1)).NE C2 E4 λ G2 s2 vs ws I2 c9 g2 r2 B5=>?_;exact .at (R:=kY (r.M7+1)) (a:=.A0 v vs) I2 g2 ⟨⟨w,ws,O,r1.K6 c9,r2.1⟩,H6 LH r2.2⟩ B5
theorem rK0(H:z7 B g cl n ih)(X:G5 B n A N0 L O0 G s){op:nK}{l r:C1}{D2:T3}:
  V4 B RV N2 A (u10 ih op (cE g cl k L l) (cE g cl k L r) O0) (Q5 (.Q_ l (Ju op) r D2) N0) G s:=by
 intro P Q M0;refine JV0 ((H X).s8 M0 λ G1 s1 x v C2 g1 rx E4=>?_);refine(H (KC C2 g1)).NE C2 E4 λ G2 s2 y w I2 c9 g2 ry B5=>?_;exact(QK0 g2 (OX c9) ry).I8 I2 B5
theorem sK0(H:kQ B g cl n ih)(H':z7 B g cl n ih)(X:G5 B n A N0 L O0 G s){e:C1}{D2:T3}:
  V4 B RV N2 A (F1 (OC ih (cE g cl k L e) O0) λ t=>W1 (.O3 (!t))) (Q5 (.fD .dX e D2) N0) G s:=by
 intro P Q M0;have lQ:(F1 (R5 (cE g cl k L e) O0) (λ v=>F1 (lC v) λ t=>W1 (.O3 (!t))) R1).P1 P Q:=by
  have:=j6 M0;unfold OC at J2;exact dZ (Sf (λ a σ h=>dZ h) (λ _ _ h=>h) (j6 J2))
 refine cv ((H' X).s8 lQ λ G1 s1 x v C2 g1 rx E4=>?_);refine A8 ?_;refine S0 ((Mj g1 rx).NE C2 E4 λ G2 s2 t b I2 c9 g2 hb B5=>E2 ?_);cases hb;exact .at (R:=RV) (a:=.O3 (!t)) I2 g2 O B5
theorem tK0(H:kQ B g cl n ih)(H':z7 B g cl n ih)(X:G5 B n A N0 L O0 G s){c a b:C1}{D2:T3}:
  V4 B RV N2 A (F1 (OC ih (cE g cl k L c) O0) λ t=>UI t (R5 (cE g cl k L a) O0) (R5 (cE g cl k L b) O0)) (Q5 (.aU c a b D2) N0) G s:=by
 intro P Q M0;refine KV0 ((H X).s8 M0 λ G1 s1 t b' C2 g1 rb E4=>?_);cases rb;cases t using o7 with
 |I0=>exact(H' (KC C2 g1)).I8 C2 E4
 |R0=>exact(H' (KC C2 g1)).I8 C2 E4
theorem gu{es:P0 C1}(h:dH es=I0):Yn<=aA:=by
 have:Yn<100:=by simpa[dH,IH]using h
 rw[LI];exact KM (NP ‹_›) O
theorem uK0(H:z7 B g cl n ih)(X:G5 B n A N0 L O0 G s){es:P0 C1}{j:C0}{D2:T3}(hf:dH es=I0):
  V4 B RV N2 A (F1 (ZM ih O0 (R8 (cE g cl k L) es)) λ vs=>W1 (.Q0 vs)) (Q5 (.U9 es j D2) N0) G s:=by
 intro P Q M0;refine wpAny_Tuple ((Tj H X).s8 M0 λ G1 s1 vs ws C2 g1 r1 E4=>⟨by rw[r1.2];exact gu hf,?_⟩);obtain⟨g2,I2,r2⟩:=g1.S40 (tk:=oA) (k:=0) r1.1;exact .at (R:=RV) (a:=.Q0 vs) (FC I2) g2 r2 E4
theorem vK0(H:z7 B g cl n ih)(X:G5 B n A N0 L O0 G s){es:P0 C1}{D2:T3}(hf:dH es=I0):
  V4 B RV N2 A (F1 (ZM ih O0 (R8 (cE g cl k L) es)) λ vs=>V9 (.M1 vs)) (Q5 (.P0 es D2) N0) G s:=by
 intro P Q M0;refine m90 ((Tj H X).s8 M0 λ G1 s1 vs ws C2 g1 r1 E4=>⟨by rw[r1.2];exact gu hf,?_⟩);obtain⟨g2,I2,r2⟩:=g1.dR (tk:=oA) (k:=0) r1.1;exact .at (R:=RV) (a:=.J0 TH) (FC I2) g2 r2 E4
def iu(m:C0):Gh->O1->PV->P0 (K0×K0)->Prop:=λ G h p l=>KJ=m/\A4 G h p (l.Wy λ x=>[x.1,x.2])
theorem wK0(H:z7 B g cl n ih){D2:T3}:∀{ks:P0 (Q1 C1)}{vs:P0 C1}{G:Gh}{s:D1},ks.dA (·.AM)=I0->Zn=R7->G5 B n A N0 L O0 G s->
  V4 B (iu Zn) N2 A (ZM ih O0 (JY (cE g cl k L) ks vs)) (evalPairs (pairTrees ks vs N0 D2)) G s:=by
 intro ks;induction ks with
 |B0=>
  intro vs G s _ hl X;obtain O:=QQ hl.Z3;exact λ P Q M0=>evalPairs_nil (.EB (R:=iu 0) (a:=.B0) ZB ⟨O,O⟩ M0)
 |A0 ko ks ih1=>
  intro vs G s ha hl X P Q M0;cases vs using i5 with
  |B0=>contradiction
  |A0 ve vs=>
  cases ko using i9 with
  |H0=>contradiction
  |E0 ke=>
  refine evalPairs_cons ((H (k:=k) (e:=ke) X).s8 M0 λ G1 s1 x v C2 g1 r1 E4=>?_);refine S0 ((H (k:=k) (e:=ve) (KC C2 g1)).NE C2 (j6 E4) λ G2 s2 y w I2 c9 g2 r2 B5=>S0 (BB (E2 ?_)));refine(ih1 (vs:=vs) ha (mZ hl) (KC I2 g2)).NE I2 B5 λ G3 s3 zs ws U5 rD g3 r3 xA=>?_;exact .at (R:=iu (Zn+1)) (a:=.A0 x (.A0 y zs)) U5 g3 ⟨H6 LH r3.1,v,_,O,(r1.K6 c9).K6 rD,w,_,O,r2.K6 rD,r3.2⟩ xA
theorem xK0{G:Gh}{h:O1}{L3:tL}{w:N4}{zs:P0 (K0×K0)}:∀{p d d':PV}{N3:P0 (u0×K0)},A4 G h p (zs.Wy λ x=>[x.1,x.2])->U8 G h d N3->(N3.Y4 (·.1)).JD->Zm p d=E0 d'->
  ∃V2,Carries (GD L3 w) zs V2/\U8 G h d' (aK N3 V2)/\((aK N3 V2).Y4 (·.1)).JD:=by
 induction zs with
 |B0=>
  intro p d d' N3 r rd nd e;have lc:=Ij r;generalize hz:([]:P0 (K0×K0)).Wy (λ x=>[x.1,x.2])=zs at lc;cases lc using E10 with
  |B0=>obtain O:=I3 e;exact⟨[],FE,rd,nd⟩
  |A0=>contradiction
 |A0 z zs ih=>
  obtain⟨x,v⟩:=z;intro p d d' N3 r rd nd e;obtain⟨a,q,O,ra,rr⟩:=J40 (v:=x) (q:=v::zs.Wy λ x=>[x.1,x.2]) r;obtain⟨b,q,O,rb,rr⟩:=J40 rr;cases a using Q3 with
  |Z0 k=>
   obtain⟨h0,xs,t,O,hk⟩:=ra;subst hk;obtain⟨V2,hc,hd,hn⟩:=ih (N3:=QJ N3 xs v) rr (Wc h0 rb nd rd) (au nd).1 e;exact⟨(xs,v)::V2,⟨by show Hc xs (.Z0 xs t)=I0;simp[Hc],O,hc⟩,hd,hn⟩
  |_=>contradiction
theorem J1.newDict{A:C6}{G:Gh}{s:D1}(gd:J1 B A G s){tk:P6}:
  J1 B A (r7 (.H2 .B0) P2) {s with B3:=G8 {O2:=.U0 "dict",M3:=.H2 #[]},B4:=tk}/\A3 B N2 G s (r7 (.H2 .B0) P2) {s with B3:=G8 {O2:=.U0 "dict",M3:=.H2 #[]},B4:=tk}/\
   H3 (r7 (.H2 .B0) P2) (G8 {O2:=.U0 "dict",M3:=.H2 #[]}) (.J0 J3) (.J0 P2):=by
 have h:=gd.y6 (o:=.H2 .B0) (ob:={O2:=.U0 "dict",M3:=.H2 #[]}) (tk:=tk) ⟨[],O1.WR.SB _,O⟩;exact⟨h.1,h.2,TD _,H6 x6 (y3 O).Z3⟩
theorem yK0{h:O1}{l:PV}{V2:P0 (u0×K0)}(r:U8 G h l V2)(hn:JA l=I0):V2=[]:=by
 cases l using Q3 with
 |B0=>exact r
 |kv=>contradiction
 |_=>exact YI
theorem f40{i:C0}{d:PV}{P:PV->K1->Prop}{Q:C0->K1->Prop}(gd:J1 B A G s)(hi:i<J3)(M0:(F1 (Rq i d) (λ _=>W1 (.J0 i)) R1).P1 P Q):
  W0.WR (GD gE oE) (Y2 i) []/\∀V2 h' tk,U8 G W0 d V2->uf (GD gE oE) (Y2 i) V2->WA (Y2 i) W0 h'->Po B RV N2 A G s P (.J0 (Y2 i)) {s with B3:=h',B4:=tk}:=by
 symm;have ob:=cL i hi;change(F1 (λ s=>Oh i d (M8 i) s) (λ _=>W1 (.J0 i)) R1).P1 P Q at M0;have M0:=j6 M0;cases ex:P3 i with
 |H2 l=>
  rw[ex]at ob;have M0:(Oh i d (P3 i) R1).P1 (λ a σ=>(W1 (FB0 i) σ).P1 P Q) Q:=M0;rw[ex]at M0;change((bif JA l then wW i (.H2 d)else F2 70) R1).P1 _ Q at M0;obtain⟨V2,hd,rd⟩:=ob;obtain⟨hn,M0⟩:=IG M0;ext;cases yK0 rd hn;refine⟨hd,λ V2 h' tk rk eA hs=>?_⟩;symm;obtain⟨oD,_,_,eD,cD,_⟩:=id hd;have Q0:CC F5 W0 h':=λ b vs n _ e=>(hs.2 b (by rintro O;rw[eD]at e;obtain O:=I3 e;exact U3 cD.1 (by simp))).U2 e;have U7:zE B (gI i (.H2 d)) h' (Y2 i) (.H2 d):=⟨V2,eA,rk.E5 (kn i _) Q0⟩;obtain⟨g',st⟩:=vz (h':=h') (tk:=tk) (i:=i) (o:=.H2 d) hi (by rw[ex];simp) (by simp) (λ _ e=>by rw[ex]at e;contradiction) (λ b o hb e=>(hs.2 b hb).U2 e) U7;ext;exact .at (R:=RV) (a:=.J0 i) st g' ⟨hi,O⟩ M0
 |_=>
  have M0:(Oh i d (P3 i) R1).P1 (λ a σ=>(W1 (FB0 i) σ).P1 P Q) Q:=M0;rw[ex]at M0;exact C4
theorem zK0(H:z7 B g cl n ih)(X:G5 B n A N0 L O0 G s){ks:P0 (Q1 C1)}{vs:P0 C1}{D2:T3}(hf:KY ks vs=I0):
  V4 B RV N2 A (x10 ih (JY (cE g cl k L) ks vs) O0) (Q5 (.cn ks vs D2) N0) G s:=by
 intro P Q M0;simp only[KY,N5,IH,C0.beq_eq]at hf;obtain⟨⟨hl,fH⟩,ha⟩:=hf;obtain⟨g1,C2,r1⟩:=ZB.newDict (tk:=X4);have M0:(F1 (ZM ih O0 (JY (cE g cl k L) ks vs)) (λ vs=>F1 (y5 70 (Zm vs .B0)) λ d=>F1 (Rq J3 d) λ _=>W1 (.J0 J3)) (qL (.H2 .B0))).P1 P Q:=j6 M0;have rho:(r7 (.H2 .B0) P2).ρ J3=P2:=y3 O;by_cases h0:ks=[]
 ·subst h0;cases vs using i5 with
  |A0=>contradiction
  |B0=>
   refine wpAny_Dict_empty ?_;obtain⟨hd,O6⟩:=f40 (d:=.B0) g1 r1.1 M0;have:=O6 [] _ X4 O hd (WA.M5 ..);rw[rho]at J2;exact J2.I8 C2
 ·refine wpAny_Dict_any ha hl h0 (by exact ls ‹_›) ?_;refine(wK0 H ha hl (KC C2 g1)).NE C2 M0 λ G2 s2 p zs I2 c9 g2 r2 B5=>?_;obtain⟨d,hd,xA⟩:=u9 (j6 B5);have AL0:BX J3=P2:=(c9.IE _ r1.1).U2 rho;obtain⟨hdo,O6⟩:=f40 g2 (W8 r1.1 SB0) xA;rw[AL0]at hdo O6;obtain⟨V2,hc,hk,hnd⟩:=xK0 (L3:=gE) (w:=oE) (d:=.B0) (N3:=[]) r2.2 O ub hd;refine wpAny_storeAll (pC:=GD gE oE) zs V2 [] s2 _ hc hdo (by rw[hc.M7,r2.1,LI,BU];omega) λ h' kX OD=>?_;exact(O6 _ h' _ hk kX OD).I8 I2
end
end
end
section
section
open PyProof.Rows
variable{B:Bs}
theorem M.IX0{α β γ:Type}{m:M α}{f:α->M β}{g:β->M γ}{σ:K1}{P:γ->K1->Prop}{X:C0->K1->Prop}:(F1 (F1 m f) g σ).P1 P X↔(F1 m (λ a=>F1 (f a) g) σ).P1 P X:=by
 rw[Op,Op,Op];exact⟨Sf (λ a s h=>dZ h) (λ _ _ h=>h),Sf (λ a s h=>j6 h) (λ _ _ h=>h)⟩
theorem IK{α β:Type}{m:M α}{f g:α->M β}{σ:K1}{P:β->K1->Prop}{X:C0->K1->Prop}(h:(F1 m f σ).P1 P X)(k:∀a σ,(f a σ).P1 P X->(g a σ).P1 P X):(F1 m g σ).P1 P X:=
 dZ (Sf (λ a s q=>k a s q) (λ _ _ q=>q) (j6 h))
section
variable{g:Nat->Option PV}{cl:Nat->Nat}{n:Nat}{ih:C5}{FZ:Nat->Bool}{T:Tab}
variable{A:Around}{cenv:Env}{L:Kinds}{env:PV}{G:Gh}{s:Shared}{k:Nat}
theorem UU0{M:YB}{Q Q':K0->D1->Prop}{E E':K0->D1->Prop}(h:V0 M A (L4 IF) Q E s)(k:Q .H0 s->Q' .H0 s):V0 M A (L4 IF) Q' E' s:=λ Γ p bg=>k (h Γ p bg)
theorem ju{j:C0}{p:T3}:Q5 (.H8 .H0 j p) N0=L4 .H0:=O
theorem BL0{op:jE}{r:C1}(h:Dz r=R0):lv op r=R0:=by cases r using j9<;>first|rfl|contradiction
inductive Vz:jE->Q1 gG->Prop
 |no op:Vz op H0
 |F6 o(h1:o≠.iG)(h2:o≠.rE):Vz (Yc o) (E0 o)
theorem CL0(op:jE):Vz op (bq op):=by
 cases op using jE.n8 with
 |Eq=>exact .F6 .eq nofun nofun
 |Bz=>exact .F6 .ne nofun nofun
 |In=>exact .F6 .f8 nofun nofun
 |Cz=>exact .F6 .rI nofun nofun
 |Gt=>exact .F6 .gt nofun nofun
 |Lt=>exact .F6 .lt nofun nofun
 |Yg=>exact .F6 .ge nofun nofun
 |_=>exact .no _
def Uj(f:C1->C)(l r:C1)(op:jE)(q:C):Prop:=q=.M2\/∃o c,q=.S1 o (f l) c/\op=Yc o/\lv op r=R0/\((c=f r/\o≠.iG/\o≠.rE)\/(c=.v0 .H0/\∃j p,r=.H8 .H0 j p))
theorem DL0{f:C1->C}{l r:C1}{op:jE}:Uj f l r op (fq f l op r):=by
 unfold fq;cases hs:Dz r with
 |I0=>exact .S2 O
 |R0=>
  have q:=CL0 op;generalize bq op=o at q;cases q with
  |no=>exact .S2 O
  |F6 o h1 h2=>exact .L2 ⟨o,f r,O,O,BL0 hs,.S2 ⟨O,h1,h2⟩⟩
theorem g40{f:C1->C}{l r:C1}{op:jE}:Uj f l r op (Nb f l op r):=by
 cases op using jE.n8 with
 |Is=>
  show Uj f l r .Is (bif bM r then _ else _);have q:=gq r;generalize bM r=b at q;cases q with
  |no=>exact .S2 O
  |F6 j p=>exact .L2 ⟨.iG,.v0 .H0,O,O,O,.L2 ⟨O,j,p,O⟩⟩
 |tm=>
  show Uj f l r .tm (bif bM r then _ else _);have q:=gq r;generalize bM r=b at q;cases q with
  |no=>exact .S2 O
  |F6 j p=>exact .L2 ⟨.rE,.v0 .H0,O,O,O,.L2 ⟨O,j,p,O⟩⟩
 |_=>exact DL0
theorem h40{γ:Type}(H:z7 B g cl n ih)(X:G5 B n A N0 L O0 G s){l r:C1}{o:gG}{c:C}(hc:(c=cE g cl k L r/\o≠.iG/\o≠.rE)\/(c=.v0 .H0/\∃j p,r=.H8 .H0 j p))
  {f:I1->M γ}{P:γ->K1->Prop}{Q:C0->K1->Prop}{K:K0->D1->Prop}
  (M0:(F1 (R5 (cE g cl k L l) O0) (λ x=>F1 (R5 c O0) λ y=>F1 (S1 o x y) f) R1).P1 P Q)
  (hK:∀G' s' t,A3 B N2 G s G' s'->J1 B A G' s'->(f t wF).P1 P Q->K (.O3 t) s'):
  V0 R2 A (Q5 l N0) (λ a N6=>V0 R2 A (Q5 r N0) (λ b s9=>V0 R2 A (ZN (Yc o) a b) K (Px B N2 A G s Q) s9) (Px B N2 A G s Q) N6) (Px B N2 A G s Q) s:=by
 refine(H X).s8 M0 λ G1 s1 x v C2 g1 rx E4=>?_;have O6:∀G2 s2 y w,A3 B N2 G s G2 s2->A3 B N2 G1 s1 G2 s2->J1 B A G2 s2->H3 G2 TN y w->((o=.iG\/o=.rE)->w=.H0)->(F1 (S1 o x y) f XR).P1 P Q->V0 R2 A (ZN (Yc o) v w) K (Px B N2 A G s Q) s2:=λ G2 s2 y w I2 c9 g2 ry hn B5=>by
  refine(nJ0 (F:=N2) X.cu g2 (OX c9) ry hn).NE I2 B5 λ G3 s3 t u U5 _ g3 e xA=>?_;cases e;exact hK G3 s3 t U5 g3 xA
 rcases hc with⟨O,h1,h2⟩|⟨O,j,p,O⟩
 ·refine(H (KC C2 g1)).NE C2 E4 λ G2 s2 y w I2 c9 g2 ry B5=>O6 G2 s2 y w I2 c9 g2 ry (λ h=>?_) B5;rcases h with h|h
  ·exact U3 h h1
  ·exact U3 h h2
 ·have sn:=(H (k:=1) (L:=L) (e:=.H8 .H0 j p) (KC C2 g1)) _ _ (j6 E4);rw[ju]at sn ⊢;refine UU0 sn λ Z2=>by obtain⟨G2,y,st,g2,ry,B5⟩:=Z2;exact O6 G2 s1 y .H0 (FC st) st g2 ry (λ _=>O) B5
theorem EL0(H:z7 B g cl n ih)(X:G5 B n A N0 L O0 G s){l r:C1}{op:jE}{D2:T3}:
  V4 B RV N2 A (sE FZ T ih (Nb (cE g cl k L) l op r) O0) (Q5 (.aP l [op] [r] D2) N0) G s:=by
 rcases g40 (f:=cE g cl k L) (l:=l) (op:=op) (r:=r)with h|⟨o,c,h,O,hm,hc⟩
 ·rw[h];exact FD
 ·rw[h];intro P Q M0;refine CU0 (h40 H X hc (f:=λ t=>W1 (PV.O3 t)) M0 λ G' s' t st g' hp=>?_) hm;exact .at (R:=RV) (a:=.O3 t) st g' O hp
theorem FL0(H:z7 B g cl n ih)(X:G5 B n A N0 L O0 G s){l r:C1}{op:jE}{D2:T3}{ZU:Y7 K0}:
  V4 B RT N2 A (F1 (sE FZ T ih (Nb (cE g cl k L) l op r) O0) lC) (WH (.aP l [op] [r] D2) N0 ZU) G s:=by
 rcases g40 (f:=cE g cl k L) (l:=l) (op:=op) (r:=r)with h|⟨o,c,h,O,hm,hc⟩
 ·rw[h];exact λ P Q M0=>C4
 ·rw[h];intro P Q M0;have M0:(F1 (R5 (cE g cl k L l) O0) (λ x=>F1 (R5 c O0) λ y=>F1 (S1 o x y) λ t=>W1 t) R1).P1 P Q:=by
   refine IK (DB M0) λ x σ h=>IK (DB h) λ y σ h=>IK (DB h) λ t σ h=>h
  refine W80 (h40 H X hc (f:=λ t=>W1 t) M0 λ G' s' t st g' hp=>bj ?_) hm;exact .at (R:=RT) (a:=t) st g' O hp
theorem ui{M:YB}{o:C1}{Z1:u0}{ZU:Y7 K0}{Q:K0->D1->Prop}{E:K0->D1->Prop}(h:CB "__class__"≠E0 .j7)(hw:V0 M A ZU Q E s):
  V0 M A (VU0 o Z1 N0 ZU) Q E s:=by
 cases o with
 |C7 f L1 QA p=>
  cases f with
  |u3 id q=>
   cases L1 using i5 with
   |B0=>
    cases QA using i5 with
    |B0=>
     have:(id !="super"||Z1=="__class__"||CB "super"!=E0 .SL||CB "__class__"!=E0 .j7)=I0:=by
      have:(CB "__class__"!=E0 .j7)=I0:=bV0.C8 h;rw[J2,I1.or_true]
     unfold VU0;dsimp only;rw[y3 J2];first|exact hw|exact S0 (V3 hw (λ _ _ q=>E2 q) λ _ _ q=>q)
    |A0=>exact hw
   |A0=>exact hw
  |_=>exact hw
 |_=>exact hw
theorem GL0(CT:aD B T)(ON:AF)(H:z7 B g cl n ih)(X:G5 B n A N0 L O0 G s){o:C1}{x:u0}{D2:T3}(hx:pD x=I0):
  V4 B RV N2 A (F1 (R5 (cE g cl k L o) O0) λ ov=>xt T ov (vc x)) (Q5 (.CD o x D2) N0) G s:=by
 intro P Q M0;refine S0 (ui WB.ji ((H X).s8 M0 λ G1 s1 ov v C2 g1 r1 E4=>?_));refine S0 (BB (S0 (A8 (V3 ((ZK0 (F:=N2) CT ON hx g1 r1).I8 C2 E4) (λ r s2 h2=>?_) λ _ _ q=>q))));exact S0 (c80 (E2 h2))
theorem lY{value i:C1}{D2:T3}{Q E:K0->D1->Prop}(h:V0 R2 A (Q5 value N0) (λ o N6=>V0 R2 A (Q5 i N0) (λ iv s9=>gY B A o iv Q E s9) E N6) E s):
  V0 R2 A (Q5 (.BD value i D2) N0) Q E s:=by
 refine S0 (V3 h (λ o N6 n5=>S0 (A8 (V3 n5 (λ iv s9 u7=>S0 (BB ?_)) λ _ _ x=>x))) λ _ _ x=>x);obtain⟨T,id,hT,hl,hq⟩:=u7;refine S0 ?_;refine S0 (Kk hT hl ?_);have e:∃vs,subscripted i R0 o iv=Um vs (eR o iv):=by
  have h1:∃vs,Um [iv,o] (eR o iv)=Um vs (eR o iv):=⟨_,O⟩;have h2:∃vs,Um [o,iv] (eR o iv)=Um vs (eR o iv):=⟨_,O⟩;cases i with
  |pW a b c p=>cases c<;>first|exact h1|exact h2
  |_=>exact h2
 obtain⟨vs,e⟩:=e;refine E2 (S0 ?_);rw[e];exact wpAny_operating (V3 hq (λ r MD e8=>S0 (c80 (E2 e8))) λ _ _ x=>x)
theorem HL0(H:z7 B g cl n ih)(X:G5 B n A N0 L O0 G s){o i:C1}{D2:T3}:
  V4 B RV N2 A (s10 ih (cE g cl k L o) (cE g cl k L i) O0) (Q5 (.BD o i D2) N0) G s:=by
 intro P Q M0;refine lY ((H X).s8 M0 λ G1 s1 x v C2 g1 rx E4=>?_);refine(H (KC C2 g1)).NE C2 E4 λ G2 s2 y w I2 c9 g2 ry B5=>?_;obtain⟨T,id,h1,h2,h3⟩:=Hu (F:=N2) g2 (OX c9) ry B5;exact⟨T,id,h1,h2,V3 h3 (λ _ _ h=>RJ I2) λ _ _ h=>RJ I2⟩
theorem i40(H:z7 B g cl n ih)(X:G5 B n A N0 L O0 G s){e:Q1 C1}:V4 B RV N2 A (R5 (VX (cE g cl k L) e) O0) (evalPart e N0) G s:=by
 cases e using i9 with
 |E0 e=>rw[evalPart_some];exact H X
 |H0=>
  have:=H (k:=1) (L:=L) (e:=.H8 .H0 0 default) X;rw[ju]at J2;exact J2
theorem IL0(H:z7 B g cl n ih)(X:G5 B n A N0 L O0 G s){o:C1}{lo hi:Q1 C1}{p D2:T3}:
  V4 B RV N2 A (w10 ih (cE g cl k L o) (VX (cE g cl k L) lo) (VX (cE g cl k L) hi) O0) (Q5 (.BD o (.pW lo hi H0 p) D2) N0) G s:=by
 intro P Q M0;refine lY ((H X).s8 M0 λ G1 s1 x v C2 g1 rx E4=>?_);refine LV0 ((i40 H (KC C2 g1)).NE C2 E4 λ G2 s2 y w I2 c9 g2 ry B5=>?_);refine(i40 H (KC I2 g2)).NE I2 B5 λ G3 s3 z u U5 rD g3 rz xA=>?_;refine E2 ?_;obtain⟨g4,wA⟩:=g3.vB (h':=s3.Wp {O2:=.U0 "slice",M3:=.T5 #[w,u,.H0]}) (tk:=s3.B4) (λ b o e=>vA _ _ _ _ e);obtain⟨T,id,h1,h2,h3⟩:=FK0 (F:=N2) g4 (((OX c9).K6 rD).K6 wA) ((ry.K6 rD).K6 wA) (rz.K6 wA) (qU0 TB0 w u .H0) xA;exact⟨T,id,h1,h2,V3 h3 (λ _ _ h=>RJ (qn wA)) λ _ _ h=>RJ (qn wA)⟩
theorem JL0(X:G5 B n A N0 L O0 G s){i:B2}{j:C0}{p D2:T3}:V4 B RV N2 A (W1 (.j0 (-i))) (Q5 (.fD .uP (.H8 (.j0 i) j p) D2) N0) G s:=by
 intro P Q M0;refine cv (zi (eM.eA0 ?_));obtain⟨g1,C2⟩:=X.NJ (X4+1+1);exact .at (R:=RV) (a:=.j0 (-i)) C2 g1 ⟨_,O⟩ M0
theorem KL0(H:z7 B g cl n ih)(X:G5 B n A N0 L O0 G s){o:C1}{j:C0}{p q r D2:T3}:
  V4 B RV N2 A (F1 (R5 (cE g cl k L o) O0) BQ) (Q5 (.BD o (.pW H0 H0 (E0 (.fD .uP (.H8 (.j0 1) j p) q)) r) D2) N0) G s:=by
 intro P Q M0;refine lY ((H X).s8 M0 λ G1 s1 x v C2 g1 rx E4=>?_);refine LV0 ?_;refine E2 (E2 ?_);refine cv (zi (eM.eA0 ?_));obtain⟨g4,wA⟩:=GB0 (h':=XL {O2:=.U0 "slice",M3:=.T5 #[.H0,.H0,.j0 (-1) (oA+1)]}) (tk:=oA+1+1) (λ b o e=>vA _ _ _ _ e);obtain⟨T,id,h1,h2,h3⟩:=GK0 (F:=N2) g4 (OX wA) (qU0 pE .H0 .H0 (.j0 (-1) (oA+1))) E4;exact⟨T,id,h1,h2,V3 h3 (λ _ _ h=>RJ (FC wA)) λ _ _ h=>RJ (FC wA)⟩
end
end
end
section
section
open PyProof.Rows
variable{B:Bs}
section
variable{g:Nat->Option PV}{cl:Nat->Nat}{n:Nat}{ih:C5}{FZ:Nat->Bool}{T:Tab}
variable{A:Around}{cenv:Env}{L:Kinds}{env:PV}{G:Gh}{s:Shared}{k:Nat}
theorem Vj{v:PV}{σ:K1}{β:Type}{f:I1->M β}{P:β->K1->Prop}{X:C0->K1->Prop}(h:(F1 (lC v) f σ).P1 P X):∃t,lC v σ=.B9 t σ/\(f t σ).P1 P X:=by
 have U7:(∃t,lC v σ=.B9 t σ)\/∃w,lC v σ=.eJ w:=by
  cases v using Q3 with
  |H0=>exact .S2 ⟨_,O⟩
  |O3 b=>exact .S2 ⟨_,O⟩
  |Q0 l=>
   show(∃t,(bif I5 l then W1 (!(JA l))else F2 8) σ=.B9 t σ)\/∃w,(bif I5 l then W1 (!(JA l))else F2 8) σ=H7.eJ w;cases I5 l using o7 with
   |I0=>exact .S2 ⟨_,O⟩
   |R0=>exact .L2 ⟨_,O⟩
  |J0 i=>
   show(∃t,y5 7 (Bb (CA i)) σ=.B9 t σ)\/∃w,y5 7 (Bb (CA i)) σ=H7.eJ w;cases Bb (CA i)using i9 with
   |E0 t=>exact .S2 ⟨_,O⟩
   |H0=>exact .L2 ⟨_,O⟩
  |_=>exact .L2 ⟨_,O⟩
 rcases U7 with⟨t,e⟩|⟨w,e⟩
 ·refine⟨t,e,?_⟩;have:=j6 h;rw[e]at J2;exact J2
 ·have:=j6 h;rw[e]at J2;exact J2.KB
theorem LL0{op:rB}{l:P0 C1}{D2:T3}:cE g cl (k+1) L (.rB op l D2)=dI (cE g cl k L) op l:=O
theorem ML0(H:z7 B g cl n ih)(X:G5 B n A N0 L O0 G s){op:rB}{e e':C1}{r:P0 C1}{D2:T3}:
  V4 B RV N2 A (sE FZ T ih (dI (cE g cl k L) op (e::e'::r)) O0) (Q5 (.rB op (e::e'::r) D2) N0) G s:=by
 intro P Q M0;have J4:∀{G' s'},A3 B N2 G s G' s'->J1 B A G' s'->(R5 (dI (cE g cl k L) op (e'::r)) O0 wF).P1 P Q->V0 R2 A (boolOp D2 op (Q5 e' N0::evalEach r N0)) (Po B RV N2 A G s P) (Px B N2 A G s Q) s':=λ{G' s'} st gd h=>by
  rw[<-LL0 (D2:=D2)]at h;have:=(H (k:=k+1) (e:=.rB op (e'::r) D2) (KC st gd)).I8 st h;rw[mT0,RT0]at J2;exact J2
 cases op using rB.n8 with
 |MM=>
  have M0:(F1 (R5 (cE g cl k L e) O0) (λ v=>F1 (lC v) λ t=>UI t (R5 (dI (cE g cl k L) .MM (e'::r)) O0) (W1 v)) R1).P1 P Q:=M0;refine S0 ((H X).s8 M0 λ G1 s1 x v C2 g1 rx E4=>S0 (BB (S0 (A8 ?_))));obtain⟨t,ht,B5⟩:=Vj E4;refine V3 (Mj (F:=N2) g1 rx (λ a σ=>a=t/\σ=qF) (λ _ _=>J6) (by rw[ht];exact⟨O,O⟩)) (λ b s2 ⟨G2,a,I2,g2,rb,ha,OM⟩=>?_) (λ _ _ h=>by obtain⟨_,_,_,_,_,h⟩:=h;exact u4);cases rb;subst ha;rw[<-OM]at B5;cases b using o7 with
  |I0=>exact J4 (FC I2) g2 B5
  |R0=>exact E2 (.at (R:=RV) (a:=x) (FC I2) g2 (OX I2) B5)
 |Or=>
  have M0:(F1 (R5 (cE g cl k L e) O0) (λ v=>F1 (lC v) λ t=>UI t (W1 v) (R5 (dI (cE g cl k L) .Or (e'::r)) O0)) R1).P1 P Q:=M0;refine S0 ((H X).s8 M0 λ G1 s1 x v C2 g1 rx E4=>S0 (BB (S0 (A8 ?_))));obtain⟨t,ht,B5⟩:=Vj E4;refine V3 (Mj (F:=N2) g1 rx (λ a σ=>a=t/\σ=qF) (λ _ _=>J6) (by rw[ht];exact⟨O,O⟩)) (λ b s2 ⟨G2,a,I2,g2,rb,ha,OM⟩=>?_) (λ _ _ h=>by obtain⟨_,_,_,_,_,h⟩:=h;exact u4);cases rb;subst ha;rw[<-OM]at B5;cases b using o7 with
  |R0=>exact J4 (FC I2) g2 B5
  |I0=>exact E2 (.at (R:=RV) (a:=x) (FC I2) g2 (OX I2) B5)
theorem NL0{m:M PV}{e:C1}(h:V4 B RV N2 A m (Q5 e N0) G s)(he:WH e N0 (Q5 e N0)=(do let v <-Q5 e N0;UK e.D2;UH [v] (kA0 v))):
  V4 B RT N2 A (F1 m lC) (WH e N0 (Q5 e N0)) G s:=by
 intro P Q M0;refine isTrue_plain ?_ he;exact h.s8 M0 λ G1 s1 x v C2 g1 rx E4=>(Mj g1 rx).I8 C2 E4
theorem OL0(H:kQ B g cl n ih)(X:G5 B n A N0 L O0 G s){e:C1}{D2:T3}{w:Y7 K0}:
  V4 B RT N2 A (F1 (F1 (OC ih (cE g cl k L e) O0) λ t=>W1 (.O3 (!t))) lC) (WH (.fD .dX e D2) N0 w) G s:=by
 intro P Q M0;refine isTrue_not ((H X).s8 (DB M0) λ G1 s1 t b C2 g1 rb E4=>?_);cases rb;exact .at (R:=RT) (a:=!t) C2 g1 O E4
theorem PL0(H:kQ B g cl n ih)(X:G5 B n A N0 L O0 G s){c a b:C1}{D2:T3}{w:Y7 K0}:
  V4 B RT N2 A (F1 (F1 (OC ih (cE g cl k L c) O0) λ t=>UI t (R5 (cE g cl k L a) O0) (R5 (cE g cl k L b) O0)) lC) (WH (.aU c a b D2) N0 w) G s:=by
 intro P Q M0;refine isTrue_IfExp ((H X).s8 (DB M0) λ G1 s1 t b' C2 g1 rb E4=>?_);cases rb;cases t using o7 with
 |I0=>exact(H (KC C2 g1)).I8 C2 E4
 |R0=>exact(H (KC C2 g1)).I8 C2 E4
theorem QL0(H:kQ B g cl n ih)(X:G5 B n A N0 L O0 G s){e e':C1}{r:P0 C1}{D2:T3}{w:Y7 K0}:
  V4 B RT N2 A (F1 (sE FZ T ih (dI (cE g cl k L) .MM (e::e'::r)) O0) lC) (WH (.rB .MM (e::e'::r) D2) N0 w) G s:=by
 intro P Q M0;have M0:(F1 (OC ih (cE g cl k L e) O0) (λ t=>UI t (OC ih (dI (cE g cl k L) .MM (e'::r)) O0) (W1 R0)) R1).P1 P Q:=by
  have h1:(F1 (F1 (R5 (cE g cl k L e) O0) (λ v=>F1 (lC v) λ t=>UI t (R5 (dI (cE g cl k L) .MM (e'::r)) O0) (W1 v))) lC R1).P1 P Q:=M0;refine M.IX0.C8 (IK (DB h1) λ v σ h=>?_);obtain⟨t,ht,h2⟩:=Vj (DB h);refine dZ ?_;rw[ht];cases t using o7 with
  |I0=>exact h2
  |R0=>
   have h3:(lC v σ).P1 P Q:=h2;rw[ht]at h3;exact h3
 refine isTrue_and ((H X).s8 M0 λ G1 s1 t b' C2 g1 rb E4=>?_);cases rb;cases t using o7 with
 |I0=>exact(H (k:=k+1) (e:=.rB .MM (e'::r) D2) (KC C2 g1)).I8 C2 E4
 |R0=>exact .at (R:=RT) (a:=R0) C2 g1 O E4
theorem RL0(H:kQ B g cl n ih)(X:G5 B n A N0 L O0 G s){e e':C1}{r:P0 C1}{D2:T3}{w:Y7 K0}:
  V4 B RT N2 A (F1 (sE FZ T ih (dI (cE g cl k L) .Or (e::e'::r)) O0) lC) (WH (.rB .Or (e::e'::r) D2) N0 w) G s:=by
 intro P Q M0;have M0:(F1 (OC ih (cE g cl k L e) O0) (λ t=>UI t (W1 I0) (OC ih (dI (cE g cl k L) .Or (e'::r)) O0)) R1).P1 P Q:=by
  have h1:(F1 (F1 (R5 (cE g cl k L e) O0) (λ v=>F1 (lC v) λ t=>UI t (W1 v) (R5 (dI (cE g cl k L) .Or (e'::r)) O0))) lC R1).P1 P Q:=M0;refine M.IX0.C8 (IK (DB h1) λ v σ h=>?_);obtain⟨t,ht,h2⟩:=Vj (DB h);refine dZ ?_;rw[ht];cases t using o7 with
  |R0=>exact h2
  |I0=>
   have h3:(lC v σ).P1 P Q:=h2;rw[ht]at h3;exact h3
 refine isTrue_or ((H X).s8 M0 λ G1 s1 t b' C2 g1 rb E4=>?_);cases rb;cases t using o7 with
 |R0=>exact(H (k:=k+1) (e:=.rB .Or (e'::r) D2) (KC C2 g1)).I8 C2 E4
 |I0=>exact .at (R:=RT) (a:=I0) C2 g1 O E4
def VT(M:YB)(s:D1)(f:K0):Prop:=∀(A:C6)(Q:jm->D1->Prop)(E:K0->D1->Prop),(∀k,(k=jm.HD\/k=jm.machine\/k=jm.boundFrame)->Q k s)->V0 M A (UW0 f) Q E s
def Wj(B:Bs)(E:C5):Prop:=∀{A:C6}{G:Gh}{s:D1}{f L1:PV}{fv:K0}{P:PV->K1->Prop}{X:C0->K1->Prop},J1 B A G s->H3 G W0 f fv->(E.K2 f L1 R1).P1 P X->VT R2 s fv
theorem sV{M:YB}{id:V6}:VT M s (.Z4 id):=λ A Q E h=>E2 (h _ (.L2 (.S2 O)))
theorem AJ{M:YB}{D2:T3}{f:K0}{Dn:P0 K0}{Q:K0->D1->Prop}{E:K0->D1->Prop}{L1:P0 (I1×Y7 K0)}{My:P0 (Q1 u0×Y7 K0)}(hplain:(L1.K4 (·.1)||My.K4 (·.1.fE))=R0)
  (h:V0 M A (VW0 f I0 L1 My) (λ a N6=>VT M N6 f/\V0 M A (K2 f (Dn++a.D2) a.kw) Q E N6) E s):V0 M A (XW0 D2 f Dn L1 My) Q E s:=by
 unfold XW0;refine S0 (A8 (V3 h (λ a N6 n5=>S0 (BB ?_)) λ _ _ x=>x));rw[hplain];have x7:∀{t:Y7 K0},V0 M A t Q E N6->V0 M A (t>>=λ r=>UH [r] point>>=λ _=>L4 r) Q E N6:=
  λ ht=>S0 (V3 ht (λ r s9 hr=>S0 (A8 (Y90 (E2 hr)))) λ _ _ x=>x)
 have marked(mk:K0):V0 M A (cV0 mk f (Dn++a.D2) a.kw) Q E N6:=by unfold cV0;exact Calls.wpAny_keep n5.2
 refine S0 (n5.1 A _ _ λ k PM=>?_);rcases PM with O|O|O<;>dsimp only<;>first|exact x7 n5.2|(split<;>first|exact x7 n5.2|exact x7 (marked _))
theorem IL{L1:P0 C1}{D2:T3}(h:lf Q8=I0):(J_ D2 (SU L1 N0)).K4 (·.1)=R0:=by
 induction L1 with
 |B0=>rfl
 |A0 e r ih=>
  simp -w4 only[Gc,N5]at h;rw[zI h.1];exact ih h.2
theorem SL0{L1:P0 C1}{D2:T3}(h:lf Q8=I0):(J_ D2 (SU L1 N0)).dA (!·.1)=I0:=by
 induction L1 with
 |B0=>rfl
 |A0 e r ih=>
  simp -w4 only[Gc,N5]at h;rw[zI h.1];exact ih h.2
theorem BJ{M:YB}{f:K0}{L1:P0 C1}{D2:T3}{Q:Args->D1->Prop}{E:K0->D1->Prop}(h:lf Q8=I0)(hs:V0 M A (Vy (J_ D2 (SU L1 N0))) (λ vs s'=>Q ⟨vs,[]⟩ s') E s):
  V0 M A (VW0 f I0 (J_ D2 (SU L1 N0)) []) Q E s:=by
 cases L1 using i5 with
 |B0=>
  show V0 M A (Vy []>>=_) Q E s;refine S0 (V3 hs (λ vs s' h'=>?_) λ _ _ x=>x);refine A8 ?_;exact S0 (E2 (S0 (E2 (E2 h'))))
 |A0 e r=>
  simp -w4 only[Gc,N5]at h;rw[zI h.1]at hs ⊢;exact evalArgs_plain hs
theorem mY{L1:P0 C1}(h:yB L1=I0):L1.M7<12/\lf Q8=I0:=by
 simpa -w4 [yB,IH]using h
theorem TL0(H:z7 B g cl n ih)(HC:rO B n ih)(HK:Wj B ih)(X:G5 B n A N0 L O0 G s){x:u0}{p q:T3}{L1:P0 C1}(hf:yB L1=I0):
  V4 B RV N2 A (Qq ih (cE g cl k L (.u3 x p)) (R8 (cE g cl k L) L1) O0) (Q5 (.C7 (.u3 x p) L1 [] q) N0) G s:=by
 intro P Q M0;obtain⟨h1,h2⟩:=mY hf;refine mM ((H X).s8 M0 λ G1 s1 fp fv C2 g1 rf E4=>?_);refine AJ (by rw[IL h2];rfl) (BJ h2 ?_);refine(Tj H (D2:=q) (KC C2 g1)).NE C2 E4 λ G2 s2 ps vs I2 c9 g2 r2 B5=>?_;exact⟨HK g2 (W00 c9) B5,(HC iD g2 (W00 c9) r2.1).I8 I2 B5⟩
def ku(B:Bs)(FZ:C0->I1)(n:C0):Prop:=∀{A:C6}{G:Gh}{s:D1}{m:Mt}{ov L1:PV}{v:K0}{vs:P0 K0},O8 n A->J1 B A G s->H3 G W0 ov v->A4 G W0 L1 vs->
 V4 B RV N2 A (n10 FZ m ov L1) (X7 (.Z4 (uc m)) (v::vs)) G s
theorem UL0{ih:C5}{m:Mt}{ov L1:PV}{p:PV×PV}(h:p.1≠.H0):o10 FZ ih m ov L1 p=Wf p.1 (nE L1 p.2):=by
 obtain⟨a,b⟩:=p;cases a using Q3<;>first|rfl|exact U3 O h
theorem VL0(CT:aD B T)(ON:AF)(PO:ku B FZ n)(H:z7 B g cl n ih)(HC:rO B n ih)(HK:Wj B ih)(X:G5 B n A N0 L O0 G s){o:C1}{x:u0}{ap p:T3}{L1:P0 C1}(hf:yB L1=I0)
  (hp:Y1 xl Ea=I0)(hx:pD x=I0):
  V4 B RV N2 A (r10 FZ T ih (JG x) (vc x) (cE g cl k L o) (R8 (cE g cl k L) L1) O0) (Q5 (.C7 (.CD o x ap) L1 [] p) N0) G s:=by
 intro P Q M0;obtain⟨h1,h2⟩:=mY hf;refine S0 (ui WB.ji ((H X).s8 M0 λ G1 s1 ov v C2 g1 rv E4=>S0 (BB ?_)));unfold dV0;have hfm:DU0 (L1.M7+([]:P0 Keyword).M7) (J_ p (SU L1 N0)) (backToKw p (keywordEach [] N0))=I0:=by
  unfold DU0;rw[SL0 h2];show(I0&&I0&&JE (L1.M7+0+0<30))=I0;simp -w4;exact KM ‹_› O
 rw[hfm];unfold YW0;refine S0 (A8 ((jK0 (F:=N2) CT ON hx g1 rv).NE C2 E4 λ G2 s2 pq q I2 c9 g2 rm B5=>?_));obtain⟨f,Dn⟩:=q;refine S0 ?_;rw[y3 (by rw[show(xl==Ea)=I0 by simpa -w4 using M6 hp];rfl)];refine E2 (AJ (by rw[IL h2];rfl) (BJ h2 ?_));refine(Tj H (D2:=p) (KC I2 g2)).NE I2 B5 λ G3 s3 ps vs U5 rD g3 r3 xA=>?_;rcases rm with⟨e1,e2⟩|⟨e1,rf,rl⟩
 ·cases e2;symm;obtain⟨pa,pb⟩:=pq;have e1:pa=.H0:=e1;subst e1;ext;exact⟨sV,(PO iD g3 ((rv.K6 c9).K6 rD) r3.1).I8 U5 xA⟩
 ·rw[UL0 e1]at xA;exact⟨HK g3 (W00 rD) xA,(HC iD g3 (W00 rD) (Zc (UB0 rD) r3.1)).I8 U5 xA⟩
end
end
end
section
open PyProof.Rows
variable{B:Bs}{A:Around}{G:Gh}{s:Shared}{F:Addr->Prop}{FZ:Nat->Bool}
theorem v_{α:Type}{i:C0}{o:AO}{f:T7->M α}{σ:K1}{P:α->K1->Prop}{X:C0->K1->Prop}(h:(F1 (ME FZ i o) f σ).P1 P X):(f () (dU i o)).P1 P X:=by
 unfold ME at h;cases hz:FZ i with
 |I0=>rw[hz]at h;exact(j6 h).KB
 |R0=>rw[hz]at h;exact h
theorem WL0{vs:P0 K0}{n:C0}(f:M4 K0->M4 K0):∃n',(qB vs n).mapSeq f=qB (f OB).bE n':=by
 obtain⟨n',h⟩:=D4.data_mapSeq (o:=qB vs n) O f;refine⟨n',?_⟩;have h2:=D4.cls_mapSeq (qB vs n) f;unfold LK at h ⊢;exact H6 (λ d=>({O2:=.U0 "list",H2:=H0,M3:=d,LC:=#[]}:D4)) (h.U2 (by simp))
theorem Xj(gd:J1 B A G s){i:C0}{l l':PV}{vs:P0 K0}{n:C0}{f:M4 K0->M4 K0}{tk:P6}(hi:i<J3)(ex:P3 i=.M1 l)(e:F3 (Y2 i)=E0 (qB vs n))(r:A4 G W0 l' (f OB).bE):
  J1 B A (gI i (.M1 l')) {s with B3:=UL (Y2 i) (LK f),B4:=tk}/\A3 B N2 G s (gI i (.M1 l')) {s with B3:=UL (Y2 i) (LK f),B4:=tk}:=by
 obtain⟨n',hm⟩:=WL0 (vs:=vs) (n:=n) f;have me:(UL (Y2 i) (LK f)).X5 (Y2 i)=E0 (qB (f OB).bE n'):=by
  rw[GH _ e (by rw[hm];rfl),hm]
 have ot:∀b o,b≠Y2 i->F3 b=E0 o->(UL (Y2 i) (LK f)).X5 b=E0 o:=λ b o hb e=>by rw[hM _ _ (H9 hb)];exact e
 have Q0:CC F5 W0 (UL (Y2 i) (LK f)):=λ b rC n _ e'=>ot _ _ (by rintro O;rw[e]at e';injection e' with e';injection e' with e' _ _;simp at e') e';exact vz (tk:=tk) hi (by rw[ex];simp) (by simp) (λ _ e=>by rw[ex]at e;contradiction) ot ⟨_,n',me,WI (kn i _) Q0⟩
theorem lu(gd:J1 B A G s){i:C0}{l l':PV}{V2:P0 (u0×K0)}{h':O1}{tk:P6}(hi:i<J3)(ex:P3 i=.H2 l)(r:U8 G W0 l' V2)(hd:uf (GD gE oE) (Y2 i) V2)(hs:WA (Y2 i) W0 h'):
  J1 B A (gI i (.H2 l')) {s with B3:=h',B4:=tk}/\A3 B N2 G s (gI i (.H2 l')) {s with B3:=h',B4:=tk}:=by
 symm;have ob:=cL i hi;rw[ex]at ob;obtain⟨_,⟨oD,_,_,eD,cD,_⟩,_⟩:=ob;have Q0:CC F5 W0 h':=λ b vs n _ e=>(hs.2 b (by rintro O;rw[eD]at e;obtain O:=I3 e;exact U3 cD.1 (by simp))).U2 e;ext;exact vz (tk:=tk) hi (by rw[ex];simp) (by simp) (λ _ e=>by rw[ex]at e;contradiction) (λ b o hb e=>(hs.2 b hb).U2 e) ⟨V2,hd,WI (kn i _) Q0⟩
theorem mQ(gd:J1 B A G s){i:C0}{l:PV}(hi:i<J3)(ex:P3 i=.H2 l):d30 B G W0 (Y2 i) l:=by
 have ob:=cL i hi;rw[ex]at ob;exact ob
theorem BN(gd:J1 B A G s){i:C0}{l:PV}(hi:i<J3)(ex:P3 i=.M1 l):c30 G W0 (Y2 i) l:=by
 have ob:=cL i hi;rw[ex]at ob;exact ob
theorem JL{l:PV}{vs:P0 K0}{h:O1}(r:A4 G h l vs)(hs:I5 l=I0):R7<=60:=by
 rw[Vc r];exact u6 hs
theorem CN{n:C0}(h:n<=60):n<=aA:=by rw[LI];exact KM ‹_› O
theorem j40(gd:J1 B A G s){i:C0}{l L1:PV}{vs:P0 K0}(hi:i<J3)(ex:P3 i=.M1 l)(ra:A4 G W0 L1 vs):
  V4 B RV N2 A (Fb FZ .VI i l L1) (X7 (.Z4 "list.append") (.J0 (Y2 i)::vs)) G s:=by
 intro P Q M0;cases L1 using Q3 with
 |A0 a r=>
  cases r using Q3 with
  |B0=>
   obtain⟨x,q,e1,rx,e2⟩:=ra;have e2:q=[]:=e2;subst e1;subst e2;change((bif I5 l then F1 (ME FZ i (.M1 (wR a l))) λ _=>W1 SH else F2 40) R1).P1 P Q at M0;obtain⟨hs,M0⟩:=IG M0;have M0:=v_ M0;obtain⟨ws,n,e,rl⟩:=BN gd hi ex;have hl:W0.Am (Y2 i) kZ:=R9 e;refine TC YT0 p00 entry_list_append ?_ (args_list_append _ _);show V0 _ _ (Fm (Y2 i) (·.y6 x)>>=λ _=>U1 .H0) _ _ s;refine S0 (Ok (hz:=by rw[nF];exact CN (JL rl hs)) (_hz':=by simp only[M4.C80,nF];have:=CN (JL rl hs);exact CK ‹_›) e O (E2 ⟨.H0,O,?_⟩));obtain⟨g',st⟩:=Xj gd (tk:=X4) (f:=(·.y6 x)) hi ex e (l':=wR a l) (by simpa using pJ0 rl rx);exact .at (R:=RV) (a:=.H0) st g' O M0
  |_=>exact C4
 |_=>exact C4
theorem XL0{α:Type}(ws:P0 α)(v:α):((ws++[v]).P8.m80 ((ws++[v]).P8.L9-1)).bE=ws:=by
 have:(ws++[v]).eraseIdx sf=ws:=by
  induction ws with
  |B0=>rfl
  |A0 a r ih=>simpa using ih
 simpa[M4.m80]using J2
theorem YL0(gd:J1 B A G s){i:C0}{l L1:PV}{vs:P0 K0}(hi:i<J3)(ex:P3 i=.M1 l)(ra:A4 G W0 L1 vs):
  V4 B RV N2 A (Fb FZ .jK i l L1) (X7 (.Z4 "list.pop") (.J0 (Y2 i)::vs)) G s:=by
 intro P Q M0;cases L1 using Q3 with
 |B0=>
  have e1:vs=[]:=ra;subst e1;change((match bif I5 l then Ve l else A2 with|E0 p=>F1 (ME FZ i (.M1 p.1)) λ _=>W1 p.2|A2=>F2 41) R1).P1 P Q at M0;cases hs:I5 l with
  |R0=>rw[hs]at M0;exact C4
  |I0=>
  rw[hs,A_]at M0;cases hd:Ve l with
  |H0=>rw[hd]at M0;exact C4
  |E0 p=>
   rw[hd]at M0;have M0:=v_ M0;obtain⟨ws,n,e,rl⟩:=BN gd hi ex;have hz:=CN (JL rl hs);obtain⟨us,v,O,ru,rv⟩:=uJ0 rl (q:=p.1) (a:=p.2) (by rw[hd]);refine QR kT0 (R9 e).AD F.entry_list_pop (F.args_list_pop_1 _) (EP.MeetsSeq.list_pop_last (Y2 i) (us++[v]).P8 n v (by simp) (by simpa using hz)) ⟨e,?_⟩;obtain⟨g',st⟩:=Xj gd (tk:=X4) (f:=λ xs=>xs.m80 ((us++[v]).P8.L9-1)) hi ex e (l':=p.1) (by rw[XL0];exact ru);exact .at (R:=RV) (a:=p.2) st g' (rv.K6 st) M0
 |_=>exact C4
theorem mu(gd:J1 B A G s){p:PV}{v:K0}(r:H3 G W0 p v){γ:Type}{f:PV->M γ}{P:γ->K1->Prop}{X:C0->K1->Prop}(M0:(F1 (H5 p) f R1).P1 P X):
  ∃b l ws n,v=.J0 b/\(F3 b=E0 (qB ws n)\/F3 b=E0 (F8 ws n)/\p=.Q0 l)/\A4 G W0 l ws/\sf<=60/\(f l R1).P1 P X:=by
 cases p using Q3 with
 |Q0 l=>
  change(F1 (bif I5 l then W1 l else F2 37) f R1).P1 P X at M0;cases hs:I5 l with
  |R0=>rw[hs]at M0;exact C4
  |I0=>
   rw[hs]at M0;obtain⟨a,ws,n,O,_,e,rl⟩:=r;exact⟨a,l,ws,n,O,.L2 ⟨e,O⟩,rl,JL rl hs,M0⟩
 |J0 i=>
  obtain⟨hi,O⟩:=r;have M0:=j6 M0;change(y5 37 (b10 (P3 i)) R1).P1 _ X at M0;obtain⟨l,hl,M0⟩:=u9 M0;generalize ex:P3 i=zo at hl;cases zo using FA with
  |M1 l'=>
   change(bif I5 l' then E0 l' else H0)=E0 l at hl;obtain⟨hs,hl⟩:=UC hl;cases hl;obtain⟨ws,n,e,rl⟩:=BN gd hi ex;exact⟨_,l,ws,n,O,.S2 e,rl,JL rl hs,M0⟩
  |_=>contradiction
 |_=>exact(j6 M0).KB
theorem ZL0(gd:J1 B A G s){i:C0}{l L1:PV}{vs:P0 K0}(hi:i<J3)(ex:P3 i=.M1 l)(ra:A4 G W0 L1 vs):
  V4 B RV N2 A (Fb FZ .pN i l L1) (X7 (.Z4 "list.extend") (.J0 (Y2 i)::vs)) G s:=by
 intro P Q M0;cases L1 using Q3 with
 |A0 a r=>
  cases r using Q3 with
  |B0=>
   symm;obtain⟨x,q,e1,rx,e2⟩:=ra;have e2:q=[]:=e2;subst e1;subst e2;obtain⟨b,l2,us,m,O,hb,ru,hu,M0⟩:=mu gd rx M0;change((bif I5 l then bif I5 l2 then F1 (ME FZ i (.M1 (nE l2 l))) λ _=>W1 SH else F2 42 else F2 42) R1).P1 P Q at M0;obtain⟨hs,M0⟩:=IG M0;obtain⟨kH,M0⟩:=IG M0;have M0:=v_ M0;obtain⟨ws,n,e,rl⟩:=BN gd hi ex;have h1:=JL rl hs;have h0:¬(!kZ.jL&&R80 (ws.GU+us.GU))=I0:=by
    have:R80 (ws.GU+us.GU)=R0:=by
     unfold R80;simp only[nF,T80,y90,H80,ge_iff_le];rw[LI];exact vU ‹_› ‹_› O
    rw[J2];simp
   have O6:(W1 SH (gI i (.M1 (nE l2 l))).σ).P1 P Q:=M0;obtain⟨g',st⟩:=Xj gd (tk:=X4) (f:=λ x=>x++us.P8) hi ex e (l':=nE l2 l) (by simpa using Zc rl ru);ext;rcases hb with hb|⟨hb,_⟩
   ·exact QR l80 (R9 e).AD zS0 (wS0 _ _) (Xe.list_extend_list_list_0 (Y2 i) kZ n b us.P8 m h0 (by rw[nF];exact CN h1) (by simp only[nF];rw[LI];exact vU ‹_› ‹_› O))
     ⟨e,hb,.at (R:=RV) (a:=.H0) st g' O O6⟩
   ·exact QR l80 (R9 e).AD zS0 (wS0 _ _) (Xe.list_extend_list_tuple_0 (Y2 i) kZ n b us.P8 m h0 (by rw[nF];exact CN h1) (by simp only[nF];rw[LI];exact vU ‹_› ‹_› O))
     ⟨e,hb,.at (R:=RV) (a:=.H0) st g' O O6⟩
  |_=>exact C4
 |_=>exact C4
theorem nY{l:PV}{V2:P0 (u0×K0)}{h:O1}(r:U8 G h l V2)(hs:I5 l=I0):KK<=60:=Gu r hs
theorem aL0(gd:J1 B A G s){i:C0}{l L1:PV}{vs:P0 K0}(hi:i<J3)(ex:P3 i=.H2 l)(ra:A4 G W0 L1 vs):
  V4 B RV N2 A (Gb FZ .o9 i l L1) (X7 (.Z4 "dict.get") (.J0 (Y2 i)::vs)) G s:=by
 intro P Q M0;obtain⟨V2,hd,rd⟩:=mQ gd hi ex;have hsys:=wM gd hi (by rw[ex];simp);cases L1 using Q3 with
 |A0 a r=>
  cases a using Q3 with
  |Z0 k=>
   cases r using Q3 with
   |A0 d r=>
    cases r using Q3 with
    |B0=>
     obtain⟨x,q,O,⟨h0,y,t,O,hy⟩,z,q2,O,rz,e2⟩:=ra;have e2:q2=[]:=e2;subst e2 hy;change((W1 ((I4 (vc y) l).jI d):M PV) R1).P1 P Q at M0;obtain⟨g',st⟩:=NJ (X4+1);refine O90 lT0 hd.AD F.entry_dict_get (F.args_dict_get_3 _ _ _) (meets_dict_get_default (GD gE oE) (k:=y) (Y2 i) fY hsys z) ⟨_,hd.mapOf,?_⟩;rcases MT h0 rd with⟨q1,q2⟩|⟨p,u,q1,q2,ru⟩
     ·rw[q1]at M0;rw[q2];exact .at (R:=RV) (a:=d) st g' (H3.K6 rz st) M0
     ·rw[q1]at M0;rw[q2];exact .at (R:=RV) (a:=p) st g' (SK st) M0
    |_=>exact C4
   |_=>exact C4
  |_=>exact C4
 |_=>exact C4
theorem bL0(gd:J1 B A G s){i:C0}{l L1:PV}{vs:P0 K0}(hi:i<J3)(ex:P3 i=.H2 l)(ra:A4 G W0 L1 vs):
  V4 B RV N2 A (Gb FZ .LU i l L1) (X7 (.Z4 "dict.setdefault") (.J0 (Y2 i)::vs)) G s:=by
 intro P Q M0;obtain⟨V2,hd,rd⟩:=mQ gd hi ex;have hsys:=wM gd hi (by rw[ex];simp);cases L1 using Q3 with
 |A0 a r=>
  cases a using Q3 with
  |Z0 k=>
   cases r using Q3 with
   |A0 d r=>
    cases r using Q3 with
    |B0=>
     obtain⟨x,q,O,⟨h0,y,t,O,hy⟩,z,q2,O,rz,e2⟩:=ra;have e2:q2=[]:=e2;subst e2 hy;change((bif I5 l then(match I4 (vc y) l with|E0 v=>W1 v|A2=>F1 (ME FZ i (.H2 (A6 (vc y) d l))) λ _=>W1 d)else F2 45) R1).P1 P Q at M0;cases hs:I5 l with
     |R0=>rw[hs]at M0;exact C4
     |I0=>
     rw[hs,A_]at M0;have nd:=wx hd;refine O90 pS0 hd.AD F.entry_dict_setdefault (F.args_dict_setdefault_3 _ _ _) (kt_meets_setdefault (GD gE oE) (k:=y) (Y2 i) fY hsys z) ⟨V2,hd,CN (nY rd hs),λ v hv=>?_,λ hn h' kX OD=>?_⟩
     ·obtain⟨g',st⟩:=NJ (X4+1);rcases MT h0 rd with⟨q1,q2⟩|⟨p,u,q1,q2,ru⟩
      ·rw[q2]at hv;contradiction
      ·rw[q1]at M0;rw[q2]at hv;obtain O:=I3 hv;exact .at (R:=RV) (a:=p) st g' (SK st) M0
     ·rcases MT h0 rd with⟨q1,q2⟩|⟨p,u,q1,q2,ru⟩
      ·rw[q1]at M0;have M0:=v_ M0;obtain⟨g',st⟩:=lu gd (tk:=X4+1) hi ex (Wc h0 rz nd rd) kX OD;exact .at (R:=RV) (a:=d) st g' (H3.K6 rz st) M0
      ·rw[q2]at hn;contradiction
    |_=>exact C4
   |_=>exact C4
  |_=>exact C4
 |_=>exact C4
theorem l40{h:O1}:∀{r l:PV}{V2 XX:P0 (u0×K0)},(lN (·.1)).JD->U8 G h l V2->U8 G h r XX->U8 G h (dJ l r) (aK V2 XX):=by
 intro r;induction r with
 |B0=>intro l V2 XX nd rl rr;have rr:XX=[]:=rr;subst rr;exact rl
 |kv k v r _ ih=>
  intro l V2 XX nd rl rr;obtain⟨x,u,q,O,h0,O,rv,rq⟩:=rr;show U8 G h (dJ (A6 (vc x) v l) r) (aK (QJ V2 x u) q);exact ih (au nd).1 (Wc h0 rv nd rl) rq
 |_=>exact λ _ _ rr=>rr.KB
theorem cL0(gd:J1 B A G s){i:C0}{l L1:PV}{vs:P0 K0}(hi:i<J3)(ex:P3 i=.H2 l)(ra:A4 G W0 L1 vs):
  V4 B RV N2 A (Gb FZ .JF i l L1) (X7 (.Z4 "dict.update") (.J0 (Y2 i)::vs)) G s:=by
 intro P Q M0;obtain⟨V2,hd,rd⟩:=mQ gd hi ex;cases L1 using Q3 with
 |A0 a r=>
  cases a using Q3 with
  |J0 j=>
   cases r using Q3 with
   |B0=>
    obtain⟨x,q,O,⟨hj,O⟩,e2⟩:=ra;have e2:q=[]:=e2;subst e2;change((bif Y1 i j then F2 46 else λ s=>(match M8 j with
     |.H2 r=>bif I5 l then bif I5 r then F1 (ME FZ i (.H2 (dJ l r))) λ _=>W1 SH else F2 46 else F2 46
     |_=>F2 46) s) R1).P1 P Q at M0
    cases hij:Y1 i j with
    |I0=>rw[hij]at M0;exact C4
    |R0=>
     rw[hij]at M0;have Z6:=tA hij;change((match P3 j with
      |.H2 r=>bif I5 l then bif I5 r then F1 (ME FZ i (.H2 (dJ l r))) λ _=>W1 SH else F2 46 else F2 46
      |_=>F2 46) R1).P1 P Q at M0
     generalize ey:P3 j=zo at M0;cases zo using FA with
     |H2 r=>
      change((bif I5 l then bif I5 r then F1 (ME FZ i (.H2 (dJ l r))) λ _=>W1 SH else F2 46 else F2 46) R1).P1 P Q at M0;obtain⟨hs,M0⟩:=IG M0;obtain⟨kH,M0⟩:=IG M0;have M0:=v_ M0;obtain⟨XX,VO,rd2⟩:=mQ gd hj ey;have h1:=nY rd hs;have h2:=nY rd2 kH;have wH:Y2 i≠Y2 j:=λ e=>Z6 (gd.pp i j hi hj (by rw[ex];simp) (by rw[ey];simp) e);refine O90 FT0 hd.AD F.entry_dict_update (F.args_dict_update_2 _ _) (meets_dict_update (GD gE oE) (Y2 i) (Y2 j) wH (wM gd hj (by rw[ey];simp))) ⟨V2,XX,hd,VO,by rw[LI];exact vU ‹_› ‹_› O,λ h' kX _ OD=>?_⟩;obtain⟨g',st⟩:=lu gd (tk:=X4) hi ex (l40 (wx hd) rd rd2) kX OD;exact .at (R:=RV) (a:=.H0) st g' O M0
     |_=>exact C4
   |_=>exact C4
  |_=>exact C4
 |_=>exact C4
end
section
open PyProof.Rows
variable{B:Bs}{A:Around}{G:Gh}{s:Shared}{F:Addr->Prop}{FZ:Nat->Bool}
theorem nu{c n:C0}(h:sC c n≠0):c<1114112:=by
 unfold sC at h;cases hn:Y1 n 0 with
 |I0=>rw[hn]at h;exact U3 O h
 |R0=>
  rw[hn]at h;cases hc:Y6 c 1114112 with
  |R0=>rw[hc]at h;exact U3 O h
  |I0=>simpa[IH]using hc
theorem ou{c n:C0}(hn:n≠0)(hc:c<1114112):sC c n=c+1+1114113*n:=by
 unfold sC;rw[DT hn,NH,show Y6 c 1114112=I0 by simpa[IH]using hc,A_];rfl
theorem dL0:∀(k:C0)(l:P0 C0),c7 l≠0->KJ<=k->Hh k (c7 l)=l:=by
 intro k;induction k with
 |K9=>
  intro l _ h;rw[QQ (C0.le_zero.mp h)];rfl
 |J9 k ih=>
  intro l h hl;cases l using i5 with
  |B0=>rfl
  |A0 c l=>
  have ht:=aY (c:=c) (n:=c7 l) h;have hc:=nu (c:=c) (n:=c7 l) h;have h1:c7 (c::l)≠1:=Us (c:=c) (n:=c7 l) h;have e:c7 (c::l)=c+1+1114113*c7 l:=ou ht hc;show(bif Y1 (c7 (c::l)) 1 then[]else(c7 (c::l)%1114113-1)::Hh k (c7 (c::l)/1114113))=c::l;rw[DT h1,NH,e];have m1:(c+1+1114113*c7 l)%1114113-1=c:=by exact ω22 ‹_›
  have m2:(c+1+1114113*c7 l)/1114113=c7 l:=by exact ω20 ‹_›
  rw[m1,m2,ih l ht (Y80 hl)]
theorem m40:∀{l m:P0 C0},c7 l≠0->c7 m≠0->c7 (l++m)≠0:=by
 intro zq;induction zq with
 |B0=>
  intro m _ h;exact h
 |A0 c l ih=>
  intro m h hm;have ht:=aY (c:=c) (n:=c7 l) h;have hc:=nu (c:=c) (n:=c7 l) h;show sC c (c7 (l++m))≠0;rw[ou (ih ht hm) hc];omega
theorem qu:∀l:P0 C0,c7 l≠0->2^(20*KJ)<=c7 l:=by
 intro l;induction l with
 |B0=>exact λ _=>B8 _
 |A0 c l ih=>
  intro h;have ht:=aY (c:=c) (n:=c7 l) h;have hc:=nu (c:=c) (n:=c7 l) h;have ih:=ih ht;show 2^(20*(KJ+1))<=sC c (c7 l);rw[ou ht hc,C0.mul_add,C0.pow_add];have:(2:C0)^(20*1)=1048576:=O;exact ω42 ‹_› O
theorem su{x:u0}(h0:vc x≠0)(h:SS (vc x)=I0):dc (vc x)=pZ:=by
 refine dL0 200 pZ h0 ?_;have h1:=(Dx h0).C8 (qu pZ h0);have h2:=u6 h;omega
theorem tu{x:u0}(h0:vc x≠0)(h:SS (vc x)=I0):QK<=195:=by
 have h1:=(Dx h0).C8 (qu pZ h0);have h2:=u6 h;have h3:QK=pZ.M7:=by trivial
 exact ω73 ‹_› ‹_›
theorem eL0{x y z:u0}(hx:vc x≠0)(hy:vc y≠0)(hz:vc z≠0)(ox:SS (vc x)=I0)(oy:SS (vc y)=I0)(oz:SS (vc z)=I0):
  Ih (vc x) (vc z) (vc y)≠0/\vc (ss z [x,y])=Ih (vc x) (vc z) (vc y):=by
 unfold Ih;rw[su hx ox,su hy oy,su hz oz];refine⟨m40 hx (m40 hz hy),?_⟩;show c7 ((x.mK++z.mK++y.mK).bE)=_;simp
theorem fL0{h:O1}:∀{l:PV}{vs:P0 K0}{CQ n:C0},A4 G h l vs->FY CQ l=E0 n->∃ts:P0 (u0×P6),vs=zV0 ts/\∀z:u0,Ug<=CQ->((XH (·.1)).Y4 λ x=>QK+Ug).Pa<=n:=by
 intro l;induction l with
 |B0=>intro vs CQ n r e;have r:vs=[]:=r;subst r;obtain O:=I3 e;exact⟨[],O,λ _ _=>B8 _⟩
 |A0 a r _ ih=>
  intro vs CQ n rl e;obtain⟨v,q,O,rv,rq⟩:=rl;change(match XM a with|E0 n=>(FY CQ r).Y4 λ m=>n+CQ+m|A2=>A2)=E0 n at e;cases ha:XM a with
  |H0=>rw[ha]at e;contradiction
  |E0 k=>
   rw[ha]at e;cases hr:FY CQ r with
   |H0=>rw[hr]at e;contradiction
   |E0 m=>
    rw[hr]at e;have e:E0 (k+CQ+m)=E0 n:=e;obtain O:=I3 e;obtain⟨x,t,O,hl⟩:=Nj rv ha;obtain⟨ts,O,hs⟩:=ih rq hr;refine⟨(x,t)::ts,O,λ z hz=>?_⟩;have:=hs z hz;exact ω50 ‹_› ‹_› ‹_›
 |_=>intro _ _ _ r;exact YI
theorem n40(f:u0->C0):∀(l:P0 u0)(a:C0),l.CX (λ n x=>n+f x) a=a+(wP f).Pa:=by
 intro zq;induction zq with
 |B0=>
  intro a;simp
 |A0 x l ih=>
  intro a;rw[MV0,ih];simp;exact xb _ _ _
theorem gL0(z:u0):∀(l:P0 u0)(N3:M4 C0),(l.CX (λ N3 p=>N3++z.mK++p.mK) N3).L9=g00+(wP λ x=>Ug+QK).Pa:=by
 intro zq;induction zq with
 |B0=>
  intro N3;simp
 |A0 x l ih=>
  intro N3;rw[MV0,ih];simp[u0.M7];exact xb _ _ _
theorem o40{z:u0}{l:P0 u0}:(ss z l).M7<=(wP λ x=>QK+Ug).Pa:=by
 cases l using i5 with
 |B0=>exact B8 _
 |A0 x r=>
  show((r.CX (λ N3 p=>N3++z.mK++p.mK) x.mK).L9)<=_;rw[gL0];have:(xP λ y=>Ug+rL)=xP λ y=>rL+Ug:=P0.map_congr_left λ y _=>WV0 ..;rw[J2];simp[u0.M7]
theorem hL0(gd:J1 B A G s){n:C0}{y:u0}{t:P6}{L1:PV}{vs:P0 K0}(h0:n≠0)(hn:vc y=n)(ra:A4 G W0 L1 vs):
  V4 B RV N2 A (Jh .sP n L1) (X7 (.Z4 "str.join") (.Z0 y t::vs)) G s:=by
 subst hn;intro P Q M0;cases L1 using Q3 with
 |A0 a r=>
  cases r using Q3 with
  |B0=>
   symm;obtain⟨x,q,O,ra1,e2⟩:=ra;have e2:q=[]:=e2;subst e2;change(F1 (H5 a) (λ l=>y5 38 (Fq (vc y) l)) R1).P1 P Q at M0;obtain⟨b,l,ws,k,O,hbb,rl,hs,M0⟩:=mu gd ra1 M0;obtain⟨p,hp,hP⟩:=u9 M0;obtain⟨g',st⟩:=NJ (X4+1);have O6:∀(ts:P0 (u0×P6)),ws=zV0 ts->Fs ((XH (·.1)).P8.CX (· +·.M7+rL) 0)=R0->H3 G W0 p (.Z0 (ss y (XH (·.1))) X4)->(∀z,ts=[z]->H3 G W0 p (.Z0 z.1 z.2))->
     V0 R2 A (X7 (.Z4 "str.join") [.Z0 y t,.J0 b]) (Po B RV N2 A G s P) (Px B N2 A G s Q) s:=λ ts hts hl hv h1=>by
    subst hts;have gl:(ss y (XH (·.1))).M7<=aA:=by
     symm;unfold Fs at hl;have e:((XH (·.1)).P8.CX (λ(n:C0) (x:u0)=>n+QK+rL) 0)=((XH (·.1)).Y4 λ x=>QK+rL).Pa:=by
      symm;have:=n40 (λ x=>QK+rL) (XH (·.1)) 0;simp only[ZW,<-xb]at J2;ext;rw[<-J2];simp
     rw[e]at hl;have:=o40 (z:=y) (l:=XH (·.1));simp only[y90,T80,H80]at hl;ext;exact X6 ‹_› ‹_›
    rcases hbb with e|⟨e,_⟩
    ·refine QR nT0 (o90 s y t) ZT0 (ST0 _ _) (meets_str_join_list y t b ts hl) ⟨R9 e,?_⟩
     match ts,h1,hv,gl with
     |[z],h1,_,_=>exact .EB (R:=RV) (a:=p) gd (h1 z O) hP
     |[],_,hv,gl=>exact⟨by first|exact gl|exact X6 gl (by decide),wN (R:=RV) (a:=p) st g' (X00 st) hP⟩
     |_::_::_,_,hv,gl=>exact⟨gl,wN (R:=RV) (a:=p) st g' (X00 st) hP⟩
    ·refine QR nT0 (o90 s y t) ZT0 (ST0 _ _) (meets_str_join_tuple y t b ts hl) ⟨⟨_,_,e,O,O⟩,?_⟩
     match ts,h1,hv,gl with
     |[z],h1,_,_=>exact .EB (R:=RV) (a:=p) gd (h1 z O) hP
     |[],_,hv,gl=>exact⟨by first|exact gl|exact X6 gl (by decide),wN (R:=RV) (a:=p) st g' (X00 st) hP⟩
     |_::_::_,_,hv,gl=>exact⟨gl,wN (R:=RV) (a:=p) st g' (X00 st) hP⟩
   have tl:∀ts:P0 (u0×P6),((XH (·.1)).Y4 λ x=>QK+rL).Pa<=100000->Fs ((XH (·.1)).P8.CX (· +·.M7+rL) 0)=R0:=λ ts h=>by
    have e:((XH (·.1)).P8.CX (λ(n:C0) (x:u0)=>n+QK+rL) 0)=((XH (·.1)).Y4 λ x=>QK+rL).Pa:=by
     symm;have:=n40 (λ x=>QK+rL) (XH (·.1)) 0;simp only[ZW,<-xb]at J2;ext;rw[<-J2];simp
    unfold Fs;rw[e];have:aA=16777216:=O;simp only[y90,T80,H80];exact KM ‹_› O
   unfold Fq at hp;cases h2:a10 (vc y) l with
   |E0 m=>
    rw[h2]at hp;obtain O:=I3 hp;obtain⟨x0,hx,h2⟩:=WS h2;obtain⟨a,wo,h2⟩:=WS h2;obtain⟨ha,h2⟩:=UC h2;obtain⟨hy,h2⟩:=UC h2;rw[MQ hx,Qh wo]at rl;obtain⟨v,q,O,⟨k0,x,tx,O,O⟩,e3⟩:=rl;have l1:=tu k0 ha;have l2:=tu h0 hy;rcases F20 h2 with⟨hn,h2⟩|⟨_,h2⟩
    ·obtain O:=I3 h2;rw[HV hn]at e3;have e3:q=[]:=e3;subst e3;ext;refine O6 [(x,tx)] O (tl _ (by simp;exact vU ‹_› ‹_› O)) ⟨k0,_,_,O,?_⟩ λ z hz=>by cases hz;exact⟨k0,_,_,O,O⟩
     show c7 (([]:P0 u0).CX (λ N3 p=>N3++y.mK++p.mK) x.mK).bE=_;rfl
    ·obtain⟨y0,hy0,h2⟩:=WS h2;obtain⟨b,hb',h2⟩:=WS h2;obtain⟨hn,h2⟩:=UC h2;obtain⟨hb,h2⟩:=UC h2;obtain O:=I3 h2;rw[MQ hy0,Qh hb',HV hn]at e3;obtain⟨v2,q2,O,⟨k1,x2,tx2,O,O⟩,e3⟩:=e3;have e3:q2=[]:=e3;subst e3;have l3:=tu k1 hb;obtain⟨c1,c2⟩:=eL0 k0 k1 h0 ha hb hy;ext;exact O6 [(x,tx),(x2,tx2)] O (tl _ (by simp;exact ω58 ‹_› ‹_› ‹_›)) ⟨c1,_,_,O,c2⟩ λ z hz=>by cases hz
   |H0=>
    rw[h2]at hp;change(match FY (je (vc y)) l with|E0 n=>Zp n 0|A2=>A2)=E0 p at hp;cases h3:FY (je (vc y)) l with
    |H0=>
     ext;rw[h3]at hp;contradiction
    |E0 m=>
     rw[h3]at hp;change(bif T9 (m+0) 100000 then E0 (PV.EG (m+0))else H0)=E0 p at hp;obtain⟨h4,hp⟩:=UC hp;obtain O:=I3 hp;have hm:=u6 h4;obtain⟨ts,hts,hsum⟩:=fL0 rl h3;have hy:rL<=je (vc y):=by
      symm;have h1:=(Dx h0).C8 (qu y.aS0 h0);have h3:rL=y.mK.F80:=by trivial
      ext;exact ω54 ‹_› ‹_›
     have hl:=hsum y hy;ext;refine O6 ts hts (tl ts (by exact X6 ‹_› ‹_›)) ⟨_,_,O,X6 o40 hl⟩ λ z hz=>?_;subst hz;refine⟨_,_,O,?_⟩;simp at hl;exact ω104 ‹_›
  |_=>exact C4
 |_=>exact C4
theorem uu:vc "A"=nA:=by decide +F7
theorem iL0:vc "::"=Dq:=by decide +F7
theorem jL0(gd:J1 B A G s){n:C0}{y:u0}{t:P6}{L1:PV}{vs:P0 K0}(h0:n≠0)(hn:vc y=n)(ra:A4 G W0 L1 vs):
  V4 B RV N2 A (Jh .nR n L1) (X7 (.Z4 "str.split") (.Z0 y t::vs)) G s:=by
 subst hn;intro P Q M0;cases L1 using Q3 with
 |A0 a r=>
  cases a using Q3 with
  |Z0 k=>
   cases r using Q3 with
   |B0=>
    obtain⟨x,q,O,⟨k0,z,tz,O,O⟩,e2⟩:=ra;have e2:q=[]:=e2;subst e2;change((bif Y1 (vc y) nA then bif Y1 (vc z) Dq then V9 (.M1 (.A0 (.Z0 nA) .B0))else F2 39 else F2 39) R1).P1 P Q at M0;obtain⟨hy,M0⟩:=IG M0;obtain⟨hz,M0⟩:=IG M0;have ey:y="A":=mO ((M6 hy).U2 uu.Z3) h0;have ez:z="::":=mO ((M6 hz).U2 iL0.Z3) k0;subst ey ez;refine QR F.slot_str_split (o90 s _ t) F.entry_str_split (F.args_str_split_2 _ _) (meets_str_split_cannot_occur "A" "::" t tz (by decide +F7)) ?_;obtain⟨g2,I2,r2⟩:=gd.dR (tk:=X4) (k:=0) (l:=.A0 (.Z0 nA) .B0) (vs:=[.Z0 "A" t]) ⟨_,_,O,⟨by rw[<-uu];exact h0,_,_,O,uu⟩,O⟩;exact .at (R:=RV) (a:=.J0 J3) I2 g2 r2 M0
   |_=>exact C4
  |_=>exact C4
 |_=>exact C4
theorem kL0(n:C0):ku B FZ n:=by
 intro A G s m ov L1 v vs D6 gd rv ra;intro P Q M0;cases ov using Q3 with
 |Z0 k=>
  obtain⟨h0,y,t,O,hy⟩:=rv;change((Jh m k L1) R1).P1 P Q at M0;cases m using u00 with
  |sP=>exact hL0 gd h0 hy ra P Q M0
  |nR=>exact jL0 gd h0 hy ra P Q M0
  |_=>exact C4
 |J0 i=>
  obtain⟨hi,O⟩:=rv;change(l10 FZ m i L1 (P3 i) R1).P1 P Q at M0;generalize ex:P3 i=zo at M0;cases zo using FA with
  |M1 l=>
   change(Fb FZ m i l L1 R1).P1 P Q at M0;cases m using u00 with
   |VI=>exact j40 gd hi ex ra P Q M0
   |jK=>exact YL0 gd hi ex ra P Q M0
   |pN=>exact ZL0 gd hi ex ra P Q M0
   |_=>exact C4
  |H2 l=>
   change(Gb FZ m i l L1 R1).P1 P Q at M0;cases m using u00 with
   |o9=>exact aL0 gd hi ex ra P Q M0
   |LU=>exact bL0 gd hi ex ra P Q M0
   |JF=>exact cL0 gd hi ex ra P Q M0
   |_=>exact C4
  |_=>exact C4
 |_=>exact C4
end
section
open PyProof.Rows
variable{B:Bs}{A:Around}{G:Gh}{s:Shared}{F:Addr->Prop}{FZ:Nat->Bool}
theorem wu{l:PV}{n:C0}(h:Cb l=E0 n):I5 l=I0/\Z5 l=n:=by
 unfold Cb at h;cases hs:I5 l with
 |R0=>rw[hs]at h;contradiction
 |I0=>rw[hs]at h;obtain O:=I3 h;exact⟨O,O⟩
theorem lL0{y:PV}{v:K0}(gd:J1 B A G s)(r:H3 G W0 y v):V4 B RV N2 A (R10 y) (X7 (.Z4 "len") [v]) G s:=by
 intro P Q M0;obtain⟨g',st⟩:=NJ (X4+1+1);have O6:∀n:C0,P (.j0 (.O4 n)) R1->Po B RV N2 A G s P (.j0 (n:B2) (X4+1)) {s with B4:=X4+1+1}:=λ n h=> .at (R:=RV) (a:=.j0 (.O4 n)) st g' ⟨_,O⟩ h;cases y using Q3 with
 |Q0 l=>
  obtain⟨n,hn,hP⟩:=u9 (j6 M0);have hP:P (.j0 (.O4 n)) R1:=hP;obtain⟨h1,O⟩:=wu hn;obtain⟨a,vs,k,O,_,e,rl⟩:=r;have hl:=JL rl h1;refine len_tuple (H5:=OB) ⟨_,e,O,_,O⟩ (by rw[nF];omega) ?_;rw[nF,Vc rl];exact O6 _ hP
 |J0 i=>
  obtain⟨hi,O⟩:=r;change(F1 (y5 21 (Q10 (P3 i))) (λ n=>W1 (.j0 (.O4 n))) R1).P1 P Q at M0;obtain⟨n,hn,hP⟩:=u9 (j6 M0);have hP:P (.j0 (.O4 n)) R1:=hP;generalize ex:P3 i=zo at hn;cases zo using FA with
  |M1 l=>
   obtain⟨h1,O⟩:=wu hn;obtain⟨ws,k,e,rl⟩:=BN gd hi ex;have hl:=JL rl h1;refine WU0 (R9 e) (by rw[nF];omega) ?_;rw[nF,Vc rl];exact O6 _ hP
  |H2 l=>
   obtain⟨h1,O⟩:=wu hn;obtain⟨V2,hd,rd⟩:=mQ gd hi ex;have hl:=nY rd h1;refine call_len_dict (wM gd hi (by rw[ex];simp)) hd (by omega) ?_;rw[L40 rd];exact O6 _ hP
  |_=>contradiction
 |_=>exact C4
theorem mL0{i:C0}{v:K0}(r:H3 G W0 (.ty i) v):∃a vs k,v=.J0 a/\F3 a=E0 (F8 vs k):=by
 obtain⟨_,r⟩:=r;revert r;cases J5 i<;>(intro r;obtain⟨a,vs,k,O,_,e,_⟩:=r;exact⟨a,vs,k,O,e⟩)
theorem nL0{y:PV}{v:K0}(gd:J1 B A G s)(r:H3 G W0 y v):V4 B RV N2 A (F1 (y5 23 (xy y)) λ b=>W1 (.O3 b)) (X7 (.Z4 "isinstance") [v,.U0 "tuple"]) G s:=by
 intro P Q M0;obtain⟨b,hb,hP⟩:=u9 (j6 M0);have hP:P (.O3 b) R1:=hP;obtain⟨g',st⟩:=NJ (X4+1);have f0:b=R0->Po B RV N2 A G s P (.O3 R0) {s with B4:=X4+1}:=λ e=>by subst e;exact .at (R:=RV) (a:=.O3 R0) st g' O hP
 cases y using Q3 with
 |Q0 l=>
  obtain O:=I3 hb;obtain⟨a,vs,k,O,_,e,rl⟩:=r;exact AT0 e O (.EB (R:=RV) (a:=.O3 I0) gd O hP)
 |ty i=>
  obtain O:=I3 hb;obtain⟨a,vs,k,O,e⟩:=mL0 r;exact AT0 e O (.EB (R:=RV) (a:=.O3 I0) gd O hP)
 |j0 i=>obtain O:=I3 hb;obtain⟨t,O⟩:=r;exact fw.int_tuple (f0 O)
 |Z0 n=>obtain O:=I3 hb;obtain⟨_,y,t,O,_⟩:=r;exact fw.str_tuple (f0 O)
 |H0=>obtain O:=I3 hb;cases r;exact fw.NoneType_tuple (f0 O)
 |O3 c=>obtain O:=I3 hb;cases r;exact fw.bool_tuple (f0 O)
 |_=>contradiction
theorem oL0:∀n:C0,n<10->(EA (ZW0 (GA n))).M7<=1:=by
 have h:∀n:jH 10,(EA (ZW0 (GA n.B9))).M7<=1:=by decide +F7
 exact λ n hn=>h ⟨n,hn⟩
theorem pL0{y:PV}{v:K0}(gd:J1 B A G s)(r:H3 G W0 y v):V4 B RV N2 A (b1 .Z0 y) (X7 (.U0 "str") [v]) G s:=by
 intro P Q M0;cases y using Q3 with
 |j0 i=>
  change((bif yy i then W1 (.EG 1)else F2 25) R1).P1 P Q at M0;cases hs:yy i with
  |R0=>rw[hs]at M0;exact C4
  |I0=>
   rw[hs]at M0;obtain⟨t,O⟩:=r;cases i using ZL with
   |PB n=>contradiction
   |O4 n=>
    have hn:n<10:=Pl hs;obtain⟨g',st⟩:=NJ (X4+1);refine str_of_int_fit (N:=10) ?_ (by decide) λ _=> .at (R:=RV) (a:=.EG 1) st g' ⟨_,_,O,oL0 n hn⟩ M0;have:¬((GA n:B2)<0):=by simp
    exact pc.C8 hn
 |_=>exact C4
theorem qL0{y:PV}{v:K0}(gd:J1 B A G s)(r:H3 G W0 y v):V4 B RV N2 A (Pq .Q0 y) (X7 (.U0 "tuple") [v]) G s:=by
 intro P Q M0;change(F1 (H5 y) (λ l=>W1 (.Q0 l)) R1).P1 P Q at M0;obtain⟨b,l,ws,n,O,hb,rl,hl,hP⟩:=mu gd r M0;have hP:P (.Q0 l) R1:=hP;rcases hb with e|⟨e,O⟩
 ·refine call_tuple_list (Z7:=by rw[nF];exact CN hl) (R9 e) λ h' k=>?_;obtain⟨g1,C2⟩:=rn (h':=h') (tk:=X4) k;obtain⟨g2,I2,r2⟩:=g1.S40 (tk:=X4) (k:=0) (UB0 C2);exact .at (R:=RV) (a:=.Q0 l) (FC I2) g2 r2 hP
 ·exact call_tuple_same (Xc e) (.EB (R:=RV) (a:=.Q0 l) gd r hP)
theorem rL0{y:PV}{v:K0}(gd:J1 B A G s)(r:H3 G W0 y v){i:C0}{l:PV}(hy:y=.J0 i)(ex:P3 i=.H2 l)(hs:I5 l=I0):
  V4 B RV N2 A (V9 (.H2 l)) (X7 (.U0 "dict") [v]) G s:=by
 intro P Q M0;subst hy;obtain⟨hi,O⟩:=r;obtain⟨V2,hd,rd⟩:=mQ gd hi ex;refine kt_call_dict (wM gd hi (by rw[ex];simp)) hd (CN (nY rd hs)) λ h' hm yJ=>?_;have k:∀b o,F3 b=E0 o->D3 b=E0 o:=λ b o e=>(yJ.2 b (ZC (r9 e))).U2 (vA _ _ _ _ e);have Q0:CC F5 W0 h':=λ b vs n _ e=>k _ _ e;obtain⟨g2,I2⟩:=Vf (h':=h') (tk:=X4) (a:=P2) (o:=.H2 l) k (TE (B8 _)) U_ ⟨V2,hm,rd.E5 (qU _ _) Q0⟩;exact .at (R:=RV) (a:=.J0 J3) I2 g2 ⟨TD _,H6 x6 (y3 O).Z3⟩ M0
theorem sL0{y:PV}{v:K0}(hh:F9=H0)(gd:J1 B A G s)(r:H3 G W0 y v):V4 B RV N2 A (Pq .M1 y) (X7 (.U0 "list") [v]) G s:=by
 intro P Q M0;cases y using Q3 with
 |J0 i=>
  symm;obtain⟨hi,O⟩:=r;change(F1 (y5 68 (Dh (P3 i))) (λ k=>V9 (.M1 (.A0 (.Z0 k) .B0))) R1).P1 P Q at M0;obtain⟨k,hk,hP⟩:=u9 (j6 M0);cases ex:P3 i with
  |H2 l=>
   rw[ex]at hk;cases l using Q3 with
   |kv k' v' r'=>
    cases r' using Q3 with
    |B0=>
     obtain O:=I3 hk;obtain⟨V2,hd,rd⟩:=mQ gd hi ex;obtain⟨x,u,q,O,h0,hx,_,e3⟩:=rd;have e3:q=[]:=e3;subst e3 hx;obtain⟨ep,E8⟩:=AW0;ext;refine kdl_call (aW0 (pC:=GD gE oE) (wM gd hi (by rw[ex];simp))) hh E8 (by rw[LI];simp) λ h' tk N3 c MC he D7=>?_;symm;obtain⟨h1,h2⟩:=D7;have h1:g00=1:=h1;have hv:N3[0]?=E0 N3[0]:=by simp[h1]
     obtain⟨k2,x2,e2,eG⟩:=h2 0 N3[0] hv;ext;cases e2;symm;obtain⟨t,et⟩:=XU0 eG;have ea:N3=#[N3[0]]:=by
      apply M4.vB
      ·simp[h1]
      ·intro j hj _;have:j=0:=by exact js ‹_›
       subst J2;rfl
     rw[et]at ea;rw[ea]at he;have ht:F3 P2=H0:=TE (B8 _);obtain⟨g2,I2⟩:=Vf (h':=h') (tk:=tk) (a:=P2) (o:=.M1 (.A0 (.Z0 (vc x)) .B0)) MC ht U_ ⟨[.Z0 x t],c,by simpa using he,_,_,O,⟨h0,_,_,O,O⟩,O⟩;ext;exact .at (R:=RV) (a:=.J0 J3) I2 g2 ⟨TD _,H6 x6 (y3 O).Z3⟩ hP
    |_=>contradiction
   |_=>contradiction
  |_=>
   ext;rw[ex]at hk;contradiction
 |_=>exact C4
theorem tL0{L3:tL}{w:N4}{E:K0->D1->Prop}{l:H1}{o:D4}{H5:M4 K0}{n:C0}{k:B2}{t:P6}{v:K0}{Q:T7->D1->Prop}(ho:F3 l=E0 o)(hc:H4=.U0 "list")(hd:I9=.W5 H5 n)
  (h0:0<=k)(FM:k<2^63)(hn:k<SR)(hQ:Q () {s with B3:=UL l (LK (·.II k.qR v))}):
  V0 (U4 L3 w) A (kl (.J0 l) (.j0 k t) v) Q E s:=by
 have hl:W0.Am l H5:=⟨o,ho,hc,n,hd⟩;unfold kl
 try with_reducible refine A8 ?_
 first|refine S0 (E2 ?_)|skip
 refine S0 (PT0 p00 (by decide) ?_);refine S0 (lF (W2:=EA "__setitem__") p00 TT0
  (TC TT0 p00 entry_list_setitem ?_ (args_list_setitem _ _ _)))
 show V0 _ _ (da.listSubscript? (.j0 k t)>>=_) _ _ s;refine S0 (wpAny_listSubscript_int (fitsIndex_of h0 FM) ?_);clear FM;obtain⟨j,O⟩:=B2.eq_ofNat_of_zero_le h0;have hj:j<SR:=by exact pc.mp ‹_›
 have WO:H5[j]?=E0 H5[j]:=lh hj;show V0 _ _ ((seqItemAt l j>>=λ r=>L4 (xP (j,·)))>>=_) _ _ s;refine S0 (S0 (wpAny_seqItemAt ho hd (E2 ?_)));rw[WO];show V0 _ _ (setSeqItemAt l j v>>=_) _ _ s;refine S0 (wpAny_setSeqItemAt ho hd ?_);first
  |exact S0 (E2 (E2 ⟨.H0,O,E2 hQ⟩))
  |exact E2 ⟨.H0,O,E2 hQ⟩
theorem uL0{o i w:PV}{ov iv wv:K0}(gd:J1 B A G s)(ro:H3 G W0 o ov)(ri:H3 G W0 i iv)(rx:H3 G W0 w wv):V4 B RU N2 A (rc FZ o i w) (kl ov iv wv) G s:=by
 intro P Q M0;cases o using Q3 with
 |J0 j=>
  symm;obtain⟨hj,O⟩:=ro;change(F1 (y5 30 (Aq i w (P3 j))) (λ x=>ME FZ j x) R1).P1 P Q at M0;obtain⟨x,hx,M0⟩:=u9 (j6 M0);have M0:(F1 (ME FZ j x) (λ _=>W1 ()) R1).P1 P Q:=dZ (Sf (λ a σ h=>h) (λ _ _ h=>h) M0);have M0:=v_ M0;cases ex:P3 j with
  |M1 l=>
   rw[ex]at hx;cases i using Q3 with
   |j0 k=>
    cases k using ZL with
    |O4 k=>
     change(bif I5 l then(zU l k w).Y4 AO.M1 else H0)=E0 x at hx;ext;cases hs:I5 l with
     |R0=>rw[hs]at hx;contradiction
     |I0=>
     symm;rw[hs,A_]at hx;obtain⟨l',hl',O⟩:=DR hx;obtain⟨t,O⟩:=ri;obtain⟨ws,n,e,rl⟩:=BN gd hj ex;obtain⟨hk,PT⟩:=vJ0 rl rx hl';ext;have FM:(k:B2)<2^63:=by have:=JL rl hs;omega
     obtain⟨g',st⟩:=Xj gd (tk:=X4) (f:=(·.II k wv)) hj ex e (l':=l') (by simpa using PT);exact tL0 (k:=(k:B2)) e O O (PL k) FM (by simpa using hk) (wN (R:=RU) (a:=()) st g' FE M0)
    |_=>contradiction
   |_=>contradiction
  |H2 l=>
   rw[ex]at hx;cases i using Q3 with
   |Z0 k=>
    change(bif I5 l then E0 (AO.H2 (A6 k w l))else H0)=E0 x at hx;obtain⟨hs,hx⟩:=UC hx;obtain O:=I3 hx;obtain⟨h0,y,t,O,O⟩:=ri;obtain⟨V2,hd,rd⟩:=mQ gd hj ex;ext;refine wpAny_setItem_pairs (Z7:=CN (nY rd hs)) (pC:=GD gE oE) fY hd λ h' hm yJ=>?_;obtain⟨g',st⟩:=lu gd (tk:=X4+1) hj ex (Wc h0 rx (wx hd) rd) hm yJ;exact .at (R:=RU) (a:=()) st g' FE M0
   |_=>contradiction
  |_=>
   ext;rw[ex]at hx;contradiction
 |_=>exact C4
end
section
section
open PyProof.Rows
variable{B:Bs}{A:Around}{G G':Gh}{s s':Shared}{F:Addr->Prop}{FZ:Nat->Bool}
structure x8(B:Bs)(G:Gh)(h:O1)(b:H1):Prop where
 v9:¬w9 G b
 mA:TG b=H0
 z:b∉GG
 l9:∃o,C3 b=E0 o
theorem x8.K6{b:H1}(x:x8 B G W0 b)(st:A3 B F G s G' s'):x8 B G' U6 b:=by
 obtain⟨o,e⟩:=x.l9;refine⟨λ q=>?_,x.mA,DQ,mf b o e⟩;rcases Tf b q with h|h
 ·exact Ca h
 ·rw[e]at h;contradiction
theorem LX(gd:J1 B A G s){b:H1}(hb:P2<=b){h':O1}(e:∃o,D3 b=E0 o):x8 B G h' b:=⟨(aN gd hb).1,(aN gd hb).2.1,(aN gd hb).2.2,e⟩
theorem x8.MC{b:H1}{o:D4}(x:x8 B G W0 b)(st:A3 B F G s G' s')(hF:¬F b)(e:F3 b=E0 o)(h1:H4≠.U0 "frame")(h2:H4≠.U0 "traceback"):VL b=E0 o:=by
 obtain⟨o',e',q⟩:=MX b o e Ca hF DQ;rw[q.eq h1 h2]at e';exact e'
theorem VB0{W:P0 H1}{h':O1}{tk:P6}(g:J1 B A G s)(hW:∀b∈W,x8 B G W0 b/\F b/\∀o,F3 b=E0 o->H4≠.U0 "frame"/\H4≠.U0 "traceback"/\H4≠.U0 "code"/\(b∉F5->H4≠.U0 "tuple"))
  (hk:∀b o,b∉W->F3 b=E0 o->D3 b=E0 o)(ha:∀b∈W,∃o,D3 b=E0 o):
  J1 B A G {s with B3:=h',B4:=tk}/\A3 B F G s G {s with B3:=h',B4:=tk}:=by
 have k3:XE W0 h':=⟨λ b o ts x c d=>⟨o,ts,hk b o (λ q=>((hW b q).2.2 o x).2.1 c) x,c,d,O⟩,λ b o x c d=>⟨o,hk b o (λ q=>((hW b q).2.2 o x).1 c) x,c,d⟩,λ b o x c=>hk b o (λ q=>((hW b q).2.2 o x).2.2.1 c.1) x⟩;have Q0:CC F5 W0 h':=λ b vs n hb x=>hk _ _ (λ q=>((hW b q).2.2 _ x).2.2.2 hb O) x;have GE:∀b o,F3 b=E0 o->∃o',D3 b=E0 o':=λ b o x=>if q:b∈W then ha b q else⟨o,hk b o q x⟩;obtain⟨l,hl,C9⟩:=WJ;refine⟨⟨LE,⟨UG,λ i hi=>?_,kL,yC,λ a ha=>⟨(DE a ha).1,by obtain⟨o,e⟩:=(DE a ha).2;exact GE a o e⟩⟩,λ b o x h1 h2 h3=>hk _ _ (λ q=>by rw[(hW b q).1.mA]at x;contradiction) (VB b o x h1 h2 h3),
  xR _ _ (λ b o x z=>hk _ _ (λ q=>Rg (hW b q).1.z λ c=>Mo (λ c=>((hW b q).2.2 o x).2.2.1 c.1) λ zz=>DM zz λ y z=>by rw[(hW b q).1.mA]at z;contradiction) x) lE,l,hl,C9.MC k3⟩,⟨h',tk,O⟩,.M5 G,λ b x=> .S2 x,GE,λ b o x h1 h2 h3=>⟨o,hk _ _ (λ q=>h2 (hW b q).2.1) x,.M5 o⟩,Q0,k3⟩
 by_cases wo:P3 i=.K4
 ·rw[wo];trivial
 ·exact(HA i hi).E5 (.M5 G) Q0 k3 (λ ob x=>hk _ _ (λ q=>(hW _ q).1.v9 ⟨i,hi,wo,O⟩) x) λ d l _ x=>⟨l,x⟩
structure B7(h:O1)(it S4:H1)(k:C0)(H5:M4 K0):Prop where
 is:(rU0 it S4 k/\Ky S4 H5)\/(BW0 h it S4 k/\Nz h S4 H5)
 ne:S4≠it
theorem B7.at{h h':O1}{it S4:H1}{k:C0}{H5:M4 K0}(x:B7 h it S4 k H5)(h1:∀o,C3 it=E0 o->D3 it=E0 o)(h2:∀o,C3 S4=E0 o->D3 S4=E0 o):B7 h' it S4 k H5:=
 ⟨x.is.QM (λ Z2=>by obtain⟨⟨o,e,r⟩,⟨o',e',r'⟩⟩:=Z2;exact⟨⟨o,h1 o e,r⟩,⟨o',h2 o' e',r'⟩⟩) λ Z2=>by obtain⟨⟨o,e,r⟩,⟨o',e',r'⟩⟩:=Z2;exact⟨⟨o,h1 o e,r⟩,⟨o',h2 o' e',r'⟩⟩,zR⟩
theorem B7.vB{h h':O1}{it S4 b:H1}{k:C0}{H5:M4 K0}(x:B7 h it S4 k H5)(hs:bd b h h')(h1:it≠b)(h2:S4≠b):B7 h' it S4 k H5:=x.at (λ o e=>hs _ o h1 e) λ o e=>hs _ o h2 e
theorem B7.l9{h:O1}{it S4:H1}{k:C0}{H5:M4 K0}(x:B7 h it S4 k H5):(∃o,C3 it=E0 o/\(H4=.U0 "list_iterator"\/H4=.U0 "tuple_iterator"))/\∃o,C3 S4=E0 o/\(H4=.U0 "list"\/H4=.U0 "tuple"):=by
 rcases x.is with⟨⟨o,e,c,_⟩,⟨o',e',c',_⟩⟩|⟨⟨o,e,c,_⟩,⟨o',e',c',_⟩⟩
 ·exact⟨⟨o,e,.S2 c⟩,⟨o',e',.S2 c'⟩⟩
 ·exact⟨⟨o,e,.L2 c⟩,⟨o',e',.L2 c'⟩⟩
section
variable{prog:Program}{w:World}{E:Value->Shared->Prop}
theorem XT{it S4:H1}{k:C0}{H5:M4 K0}{x:K0}{Q:K0->D1->Prop}(h:B7 W0 it S4 k H5)(hx:H5[k]?=E0 x)
  (hQ:∀h',B7 h' it S4 (k+1) H5->WA it W0 h'->Q x {s with B3:=h'}):V0 (U4 L3 w) A (FR (.J0 it)) Q E s:=by
 rcases h.is with⟨D7,hl⟩|⟨D7,hl⟩
 ·exact wpAny_nextOf_list_item D7 hl hx λ h' zJ hs=>hQ h' ⟨.S2 ⟨zJ,hl.sK mW YX⟩,YX⟩ hs
 ·obtain⟨o,ho,hc,hd⟩:=id D7;obtain⟨ol,oY,dG,nl,EQ⟩:=id hl;refine S0 (lF (W2:=EA "__next__") TR oa
   (TC oa TR d80 ?_ (h80 _)))
  show V0 _ _ (NC (.J0 it) 0>>=_) _ _ s;refine S0 (N7 ho hd (x:=.J0 S4) O ?_);show V0 _ _ (if(x6 S4==IF)=I0 then _ else _) _ _ s;show V0 _ _ (NC (.J0 it) 1>>=_) _ _ s;refine S0 (N7 ho hd (x:=.j0 k 0) O ?_);show V0 _ _ (Hm (.J0 S4)>>=_) _ _ s;refine S0 (DK oY EQ ?_);simp only[w80,hx];refine S0 (LR ho hd (by simp) (E2 ⟨x,O,E2 (hQ _ ⟨.L2 ⟨?_,?_⟩,YX⟩ (qr ..))⟩))
  ·exact⟨_,GH _ ho (ka (aZ hd _)),(D4.cls_mapFields ..).U2 hc,by
    rw[aZ hd];simp[j5]⟩
  ·exact⟨ol,(hM _ _ YX.Z3).U2 oY,dG,nl,EQ⟩
theorem pY{it S4:H1}{k:C0}{H5:M4 K0}{Q:K0->D1->Prop}(hh:F9=H0)(h:B7 W0 it S4 k H5)(hx:H5[k]?=H0)
  (hE:∀h' e,bd it W0 h'->(∃o,D3 e=E0 o/\H4=.U0 "StopIteration")->(∃o,D3 it=E0 o)->E (.J0 e) {s with B3:=h'}):V0 (U4 L3 w) A (FR (.J0 it)) Q E s:=by
 rcases h.is with⟨D7,hl⟩|⟨D7,hl⟩
 all_goals
  obtain⟨o,ho,hc,hd⟩:=id D7;obtain⟨ol,oY,_,nl,EQ⟩:=id hl;first
   |refine S0 (lF (W2:=EA "__next__") TR Ts
     (TC Ts TR BT0 ?_ (HT0 _)))
   |refine S0 (lF (W2:=EA "__next__") TR oa
     (TC oa TR d80 ?_ (h80 _)))
  show V0 _ _ (NC (.J0 it) 0>>=_) _ _ s;refine S0 (N7 ho hd (x:=.J0 S4) O ?_);show V0 _ _ (if(x6 S4==IF)=I0 then _ else _) _ _ s;show V0 _ _ (NC (.J0 it) 1>>=_) _ _ s;refine S0 (N7 ho hd (x:=.j0 k 0) O ?_);show V0 _ _ (Hm (.J0 S4)>>=_) _ _ s;refine S0 (DK oY EQ ?_);simp only[w80,hx];refine S0 (RP (S0 (LR ho hd (by simp) ?_)));show V0 _ _ (oA0 (.U0 "StopIteration") []>>=_) _ _ _;refine S0 ?_;refine S0 (HH ?_ (by size_fits));refine S0 (m:=vb _ _) (WN (a:=IF) (by first|rfl|(simp only[vb];rfl)) ?_);refine HH ?_ (by size_fits);dsimp only;refine S0 (mv ?_);first|rw[show sB.B80=H0 from hh]|rw[hh]
  refine S0 (E2 (tZ ?_));exact hE _ _ (((qr ..).sK.y6 _).y6 _) ⟨_,DA _ O,O⟩ ⟨_,T6 _ (T6 _ (GH _ ho (ka (aZ hd _))))⟩
theorem p40{z TI TO i1 i2 l1 l2:H1}{k1 k2:C0}{xs ys:M4 K0}{x y a b:K0}{Q:K0->D1->Prop}(D:Ze z TI TO i1 i2 l1 l2)
  (hz:zF W0 z TI TO .H0)(wB:jC W0 TI (.J0 i1) (.J0 i2))(rA:jC W0 TO a b)
  (h1:B7 W0 i1 l1 k1 xs)(h2:B7 W0 i2 l2 k2 ys)(hx:xs[k1]?=E0 x)(hy:ys[k2]?=E0 y)
  (hQ:∀h',zF h' z TI TO (j5 P2)->jC h' TO x y->B7 h' i1 l1 (k1+1) xs->B7 h' i2 l2 (k2+1) ys->jC h' P2 x y->NB=P2+1->
   (∀c o,c≠z->c≠TO->c≠i1->c≠i2->F3 c=E0 o->D3 c=E0 o)->Q (.J0 P2) {s with B3:=h'}):
  V0 (U4 L3 w) A (MA.«zip.__next__» ⟨[.J0 z],[]⟩) (λ O6 s'=>∃v,O6=.ND (.U1 v)/\Q v s') E s:=by
 show V0 _ _ (NC (.J0 z) 2>>=_) _ _ _;refine S0 (N7 hz O (x:=.O3 R0) O ?_);show V0 _ _ (NC (.J0 z) 3>>=_) _ _ _;refine S0 (N7 hz O (x:=.J0 TI) O ?_);refine S0 (DK wB O ?_);show V0 _ _ (AT (.J0 z)>>=_) _ _ _;refine S0 ?_;refine S0 (N7 hz O (x:=.H0) O (E2 ?_));simp -w4 only[sW];refine S0 (RP ?_);refine S0 (N7 hz O (x:=.J0 TO) O ?_);refine S0 (tI hz (by simp -w4) λ n5 DN BE=>?_);replace DN:zF n5 z TI TO .ae:=DN;refine S0 ?_;simp -w4 only[sU0,NV0,PW,pk];refine S0 (S0 (iZ ?_));show V0 _ _ (FR (.J0 i1)>>=_) _ _ _;refine S0 (XT (Z_ xC eP sR) hx λ u7 qY mB=>E2 ?_);have yc:jC u7 TO a b:=KH _ _ K_ (xC _ _ zN rA);refine S0 (DK yc O ?_);refine S0 (e80 yc λ e8 Ad zG=>?_);replace Ad:jC e8 TO x b:=Ad;refine S0 (ll (E2 ?_));refine S0 (S0 (iZ ?_));show V0 _ _ (FR (.J0 i2)>>=_) _ _ _;refine S0 (XT (((wz xC BO V_).vB KH Om km).vB KF ue.Z3 iy) hy λ IM vL0 rY=>E2 ?_);have q40:jC IM TO x b:=q00 _ _ ue Ad;refine S0 (DK q40 O ?_);refine S0 (e80 q40 λ aI Yj sY=>?_);replace Yj:jC aI TO x y:=Yj;refine S0 (ll (E2 (E2 ?_)));refine S0 (DK Yj O ?_);refine S0 (wt ?_);have Z7:TW=P2:=by rw[sY.1,rY.1,zG.1,mB.1,BE.1]
 have Zj:zF aI z TI TO .ae:=bN _ _ zN.Z3 (q00 _ _ BO.Z3 (KF _ _ zN.Z3 (KH _ _ Qy DN)));have wL0:∀c o,c≠z->c≠TO->c≠i1->c≠i2->F3 c=E0 o->aI.X5 c=E0 o:=λ c o c1 c2 c3 c4 e=>
  bN _ _ c2 (q00 _ _ c4 (KF _ _ c2 (KH _ _ c3 (xC _ _ c1 e))))
 have xL0:B7 aI i1 l1 (k1+1) xs:=((qY.vB KF K_.Z3 pA0).vB q00 D.i12 qA0).vB bN K_.Z3 pA0;have yL0:B7 aI i2 l2 (k2+1) ys:=vL0.vB bN ue.Z3 iy;have r40:z<TW:=r9 Zj;show V0 _ _ (I80 (.J0 z) (.J0 TW)>>=_) _ _ _;refine S0 ?_;have zL0:zF (aI.y6 {O2:=.U0 "tuple",M3:=.W5 #[x,y]}) z TI TO .ae:=T6 _ Zj;refine S0 (tI zL0 (by simp -w4) λ Bd xu Cd=>?_);replace xu:zF Bd z TI TO (j5 TW):=xu;refine tI xu (by simp -w4) λ Dd aj yu=>?_;replace aj:zF Dd z TI TO (j5 TW):=aj;have up:∀c o,c≠z->aI.X5 c=E0 o->Dd.X5 c=E0 o:=λ c o c1 e=>yu.sK _ _ c1 (wn _ _ c1 (T6 _ e));have s40:jC Dd TW x y:=yu.sK _ _ (aW r40) (wn _ _ (aW r40) (DA _ O));have hz8:Dd.hO=TW+1:=by rw[yu.1,Cd.1,bD]
 rw[Z7]at aj s40 hz8;refine E2 ⟨_,O,?_⟩;show Q (.J0 TW) _;rw[Z7];exact hQ Dd aj (up _ _ zN Yj) (xL0.at (λ o e=>up _ o eP e) λ o e=>up _ o sR e) (yL0.at (λ o e=>up _ o BO e) λ o e=>up _ o V_ e) s40 hz8 λ c o c1 c2 c3 c4 e=>up c o c1 (wL0 c o c1 c2 c3 c4 e)
theorem t40{z TI TO i1 i2 l1 l2:H1}{k1 k2:C0}{xs ys:M4 K0}{a b:K0}{Q:jH->D1->Prop}(hh:F9=H0)(D:Ze z TI TO i1 i2 l1 l2)
  (hz:zF W0 z TI TO .H0)(wB:jC W0 TI (.J0 i1) (.J0 i2))(rA:jC W0 TO a b)
  (h1:B7 W0 i1 l1 k1 xs)(h2:∃o,F3 i2=E0 o)(tU:xs[k1]?=H0\/(B7 W0 i2 l2 k2 ys/\ys[k2]?=H0))
  (hE:∀h' e,(∀c o,c≠z->c≠TO->c≠i1->c≠i2->F3 c=E0 o->D3 c=E0 o)->(∃o,D3 e=E0 o/\H4=.U0 "StopIteration")->(∀c,c=z\/c=TO\/c=i1\/c=i2->∃o,D3 c=E0 o)->E (.J0 e) {s with B3:=h'}):
  V0 (U4 L3 w) A (MA.«zip.__next__» ⟨[.J0 z],[]⟩) Q E s:=by
 show V0 _ _ (NC (.J0 z) 2>>=_) _ _ _;refine S0 (N7 hz O (x:=.O3 R0) O ?_);show V0 _ _ (NC (.J0 z) 3>>=_) _ _ _;refine S0 (N7 hz O (x:=.J0 TI) O ?_);refine S0 (DK wB O ?_);show V0 _ _ (AT (.J0 z)>>=_) _ _ _;refine S0 ?_;refine S0 (N7 hz O (x:=.H0) O (E2 ?_));refine S0 (RP ?_);refine S0 (N7 hz O (x:=.J0 TO) O ?_);refine S0 (tI hz (by simp -w4) λ n5 DN BE=>?_);replace DN:zF n5 z TI TO .ae:=DN;refine S0 ?_;simp -w4 only[sU0,NV0,PW,pk];have t1:∃o,n5.X5 i1=E0 o:=by obtain⟨⟨o,e,_⟩,_⟩:=(Z_ xC eP sR).l9;exact⟨o,e⟩
 have t2:∃o,n5.X5 i2=E0 o:=by obtain⟨o,e⟩:=h2;exact⟨o,xC _ _ BO e⟩
 refine S0 (S0 (iZ ?_));show V0 _ _ (FR (.J0 i1)>>=_) _ _ _;cases hx:xs[k1]? with
 |H0=>
  refine S0 (pY hh (Z_ xC eP sR) hx λ u7 e mB he ti=>?_);obtain⟨oe,Ed,bG⟩:=he;have u40:zF u7 z TI TO .ae:=mB _ _ Qy DN;have zu:e≠z:=rM Ed u40 bG O (by decide);refine tI u40 (by simp -w4) λ e8 Av zG=>hE e8 e (λ c o c1 _ c3 _ x=>KF _ _ c1 (mB _ _ c3 (xC _ _ c1 x))) ⟨oe,KF _ _ zu Ed,bG⟩ λ c hc=>Wi (P:=λ c=>∃o,e8.X5 c=E0 o) hc ?_ ?_ ?_ ?_
  ·exact⟨_,Av⟩
  ·exact⟨_,KF _ _ zN (mB _ _ K_ (xC _ _ zN rA))⟩
  ·obtain⟨o,e⟩:=ti;exact⟨o,KF _ _ eP e⟩
  ·obtain⟨o,e⟩:=t2;exact⟨o,KF _ _ BO (mB _ _ Om e)⟩
 |E0 x=>
  obtain⟨h2,hy⟩:B7 W0 i2 l2 k2 ys/\ys[k2]?=H0:=by rcases tU with h|h;rw[hx]at h;contradiction;exact h
  refine S0 (XT (Z_ xC eP sR) hx λ u7 qY mB=>E2 ?_);have yc:jC u7 TO a b:=KH _ _ K_ (xC _ _ zN rA);refine S0 (DK yc O ?_);refine S0 (e80 yc λ e8 Ad zG=>?_);refine S0 (ll (E2 ?_));refine S0 (S0 (iZ ?_));show V0 _ _ (FR (.J0 i2)>>=_) _ _ _;refine S0 (pY hh (((wz xC BO V_).vB KH Om km).vB KF ue.Z3 iy) hy λ IM e rY he ti=>?_);obtain⟨oe,Ed,bG⟩:=he;have cj:zF IM z TI TO .ae:=rY _ _ BO.Z3 (KF _ _ zN.Z3 (KH _ _ Qy DN));have zu:e≠z:=rM Ed cj bG O (by decide);refine tI cj (by simp -w4) λ aI Zj sY=>hE aI e (λ c o c1 c2 c3 c4 x=>bN _ _ c1 (rY _ _ c4 (KF _ _ c2 (KH _ _ c3 (xC _ _ c1 x))))) ⟨oe,bN _ _ zu Ed,bG⟩ λ c hc=>Wi (P:=λ c=>∃o,aI.X5 c=E0 o) hc ?_ ?_ ?_ ?_
  ·exact⟨_,Zj⟩
  ·exact⟨_,bN _ _ zN (rY _ _ ue Ad)⟩
  ·obtain⟨⟨o,e,_⟩,_⟩:=qY.l9;exact⟨o,bN _ _ eP (rY _ _ D.i12 (KF _ _ K_.Z3 e))⟩
  ·obtain⟨o,e⟩:=ti;exact⟨o,bN _ _ BO e⟩
theorem v40{e it l:H1}{i:B2}{k:C0}{H5:M4 K0}{x N8:K0}{Q:K0->D1->Prop}
  (he:gP W0 e it i N8)(D7:B7 W0 it l k H5)(hx:H5[k]?=E0 x)(Z6:e≠it)(lH:l≠e)
  (hQ:∀h',z90 h' e it (i+1) x P2->B7 h' it l (k+1) H5->
   D3 P2=E0 {O2:=.U0 "tuple",M3:=.W5 #[.j0 i X4,x]}->NB=P2+1->
   (∀b o,b≠e->b≠it->F3 b=E0 o->D3 b=E0 o)->Q (.J0 P2) {s with B3:=h',B4:=X4+1}):
  V0 (U4 L3 w) A (MA.«enumerate.__next__» ⟨[.J0 e],[]⟩) (λ O6 s'=>∃v,O6=.ND (.U1 v)/\Q v s') E s:=by
 obtain⟨hp,g,d,tk,os⟩:=s;show V0 _ _ (NC (.J0 e) 2>>=_) _ _ _;refine S0 (N7 he O (x:=.J0 it) O ?_);refine S0 (XT D7 hx λ n5 YT BE=>?_);replace BE:WA it hp n5:=BE;have qO:gP n5 e it i N8:=(BE.2 e Z6).U2 he;show V0 _ _ (NC (.J0 e) 3>>=_) _ _ ⟨n5,g,d,tk,os⟩;refine S0 (N7 qO O (x:=j5 i) O ?_);show V0 _ _ (NC (.J0 e) 4>>=_) _ _ ⟨n5,g,d,tk,os⟩;refine S0 (N7 qO O (x:=.H0) O ?_);show V0 _ _ (mkInt i>>=_) _ _ ⟨n5,g,d,tk,os⟩;refine S0 (V90 ?_);show V0 _ _ (Ye (.J0 e) 3 (j5 (i+1))>>=_) _ _ ⟨n5,g,d,tk+1,os⟩;refine S0 (tI qO (by simp -w4) λ u7 wJ mB=>?_);replace mB:WA e n5 u7:=mB;replace wJ:gP u7 e it (i+1) N8:=wJ;show V0 _ _ (Ye (.J0 e) 4 .H0>>=_) _ _ ⟨u7,g,d,tk+1,os⟩;refine S0 (tI wJ (by simp -w4) λ e8 AN zG=>?_);replace zG:WA e u7 e8:=zG;replace AN:gP e8 e it (i+1) N8:=AN;show V0 _ _ (bW0 [.j0 i tk,x]>>=_) _ _ ⟨e8,g,d,tk+1,os⟩;refine S0 (wt ?_);have nQ:gP (vf {O2:=.U0 "tuple",M3:=.W5 #[.j0 i tk,x]}) e it (i+1) N8:=T6 _ AN;generalize Fd:vf {O2:=.U0 "tuple",M3:=.W5 #[.j0 i tk,x]}=IM at nQ;have Z7:wb=bW:=by rw[zG.1,mB.1,BE.1]
 have hel:e<bW:=r9 he;have AM0:IM.X5 bW=E0 {O2:=.U0 "tuple",M3:=.W5 #[.j0 i tk,x]}:=by rw[<-Fd,<-Z7];exact DA _ O
 have cj:IM.hO=bW+1:=by rw[<-Fd,bD,Z7]
 have BM0:∀b o,b≠e->b≠it->ff b=E0 o->IM.X5 b=E0 o:=λ b o sO TA hb=>by
  rw[<-Fd];exact T6 _ (KF b o sO (KH b o sO (xC b o TA hb)))
 have CM0:B7 IM it l (k+1) H5:=by
  rw[<-Fd];exact((YT.vB KH ZR lH).vB KF ZR lH).at (λ o e=>T6 _ e) λ o e=>T6 _ e
 show V0 _ _ (AT (.J0 e)>>=_) _ _ ⟨IM,g,d,tk+1,os⟩;rw[Z7];clear Fd AN zG wJ mB qO BE YT Z7 e8 u7 n5;refine S0 ?_
 ·unfold AT;refine S0 (N7 nQ O (x:=.H0) O (E2 ?_));dsimp only[sW];refine S0 (RP ?_);refine S0 (N7 nQ O (x:=N8) O ?_);refine S0 (tI nQ (by simp -w4) λ aI Bv sY=>?_);replace sY:WA e IM aI:=sY;replace Bv:gP aI e it (i+1) x:=Bv;show V0 _ _ (I80 (.J0 e) (.J0 bW)>>=_) _ _ ⟨aI,g,d,tk+1,os⟩;refine S0 ?_
  ·unfold I80;refine S0 (tI Bv (by simp -w4) λ h₆ Cv tY=>?_);replace tY:WA e aI h₆:=tY;replace Cv:z90 h₆ e it (i+1) x bW:=Cv;refine tI Cv (by simp -w4) λ Bd Dv Cd=>?_;replace Cd:WA e h₆ Bd:=Cd;replace Dv:z90 Bd e it (i+1) x bW:=Dv;refine S0 (ll (E2 ⟨_,O,hQ Bd Dv ?_ ?_ ?_ ?_⟩))
   ·exact((CM0.vB bN ZR lH).vB tY.sK ZR lH).vB wn ZR lH
   ·exact wn _ _ (aW hel) (tY.sK _ _ (aW hel) (bN _ _ (aW hel) AM0))
   ·rw[Cd.1,tY.1,sY.1,cj]
   ·exact λ b o sO TA hb=>wn b o sO (tY.sK b o sO (bN b o sO (BM0 b o sO TA hb)))
theorem DM0{e it l:H1}{i:B2}{k:C0}{H5:M4 K0}{N8:K0}{Q:jH->D1->Prop}(hh:F9=H0)
  (he:gP W0 e it i N8)(D7:B7 W0 it l k H5)(hx:H5[k]?=H0)
  (hE:∀h' x,bd it W0 h'->(∃o,D3 x=E0 o/\H4=.U0 "StopIteration")->(∃o,D3 it=E0 o)->E (.J0 x) {s with B3:=h'}):
  V0 (U4 L3 w) A (MA.«enumerate.__next__» ⟨[.J0 e],[]⟩) Q E s:=by
 show V0 _ _ (NC (.J0 e) 2>>=_) _ _ _;refine S0 (N7 he O (x:=.J0 it) O ?_);exact S0 (pY hh D7 hx λ h' x pI WO ti=>hE h' x pI WO ti)
end
end
end
section
section
open PyProof.Rows
variable{B:Bs}{A:Around}{G G':Gh}{s s':Shared}{F:Addr->Prop}{FZ:Nat->Bool}
section
variable{prog:Program}{w:World}{E:Value->Shared->Prop}
theorem Fv{it S4:H1}{k:C0}{H5:M4 K0}{x:K0}{Q:Q1 K0->D1->Prop}(h:B7 W0 it S4 k H5)(hx:H5[k]?=E0 x)
  (hQ:∀h',B7 h' it S4 (k+1) H5->WA it W0 h'->Q (E0 x) {s with B3:=h'}):V0 (U4 L3 w) A (vF (.J0 it)) Q E s:=by
 rcases h.is with⟨D7,hl⟩|⟨D7,hl⟩
 ·exact wpAny_pyNext_list_item D7 hl hx λ h' zJ hs=>hQ h' ⟨.S2 ⟨zJ,hl.sK mW YX⟩,YX⟩ hs
 ·exact next_tuple_item D7 hl hx λ h' zJ hs=>hQ h' ⟨.L2 ⟨zJ,hl.sK mW YX⟩,YX⟩ hs
theorem Gv{it S4:H1}{k:C0}{H5:M4 K0}{Q:Q1 K0->D1->Prop}(hh:F9=H0)(h:B7 W0 it S4 k H5)(hx:H5[k]?=H0)
  (hQ:∀h',bd it W0 h'->(∃o,D3 it=E0 o)->Q H0 {s with B3:=h'}):V0 (U4 L3 w) A (vF (.J0 it)) Q E s:=by
 rcases h.is with⟨D7,hl⟩|⟨D7,hl⟩
 all_goals
  obtain⟨o,ho,hc,hd⟩:=id D7;obtain⟨ol,oY,_,nl,EQ⟩:=id hl;first
   |refine S0 (JI (lF (W2:=EA "__next__") TR Ts
     (TC Ts TR BT0 ?_ (HT0 _))))
   |refine S0 (JI (lF (W2:=EA "__next__") TR oa
     (TC oa TR d80 ?_ (h80 _))))
  show V0 _ _ (NC (.J0 it) 0>>=_) _ _ s;refine S0 (N7 ho hd (x:=.J0 S4) O ?_);show V0 _ _ (if(x6 S4==IF)=I0 then _ else _) _ _ s;show V0 _ _ (NC (.J0 it) 1>>=_) _ _ s;refine S0 (N7 ho hd (x:=.j0 k 0) O ?_);show V0 _ _ (Hm (.J0 S4)>>=_) _ _ s;refine S0 (DK oY EQ ?_);simp only[w80,hx];refine S0 (RP (S0 (LR ho hd (by simp) ?_)));show V0 _ _ (oA0 (.U0 "StopIteration") []>>=_) _ _ _;refine S0 ?_;refine S0 (HH ?_ (by size_fits));refine S0 (m:=vb _ _) (WN (a:=IF) (by first|rfl|(simp only[vb];rfl)) ?_);refine HH ?_ (by size_fits);dsimp only;refine S0 (mv ?_);first|rw[show sB.B80=H0 from hh]|rw[hh]
  refine S0 (E2 (tZ ?_));refine S0 (AU (T:="StopIteration") (b:=I0) ⟨_,DA _ O,O⟩ eZ ?_);exact E2 (hQ _ (((qr ..).sK.y6 _).y6 _) ⟨_,T6 _ (T6 _ (GH _ ho (ka (aZ hd _))))⟩)
theorem EM0{it:H1}{x m_ K6:B2}{Q:Q1 K0->D1->Prop}(hh:F9=H0)(D7:ml W0 it x m_ K6)(hleft:m_<=0)
  (hQ:∀h',(∀b o,F3 b=E0 o->D3 b=E0 o)->Q H0 {s with B3:=h'}):V0 (U4 L3 w) A (vF (.J0 it)) Q E s:=by
 have hT:fC (.J0 it) "range_iterator":=⟨_,D7,O⟩;unfold vF;refine S0 (JI (lF (W2:=EA "__next__") hT gS0
  (TC gS0 hT F.entry_range_iterator_next ?_ (F.args_range_iterator_next_1 _))))
 show V0 _ _ (NC (.J0 it) 0>>=_) _ _ s;refine S0 (N7 D7 O (x:=j5 x) O ?_);show V0 _ _ (NC (.J0 it) 1>>=_) _ _ s;refine S0 (N7 D7 O (x:=j5 m_) O ?_);show V0 _ _ (NC (.J0 it) 2>>=_) _ _ s;refine S0 (N7 D7 O (x:=j5 K6) O ?_);show V0 _ _ (if m_<=0 then _ else _) _ _ s;rw[y3 hleft];refine S0 (RP ?_);refine S0 ?_;show V0 _ _ (oA0 (.U0 "StopIteration") []>>=_) _ _ _;refine S0 ?_;refine S0 (HH ?_ (by size_fits));refine S0 (m:=vb _ _) (WN (a:=IF) (by first|rfl|(simp -w4 only[vb];rfl)) ?_);refine HH ?_ (by size_fits);refine S0 (mv ?_);first|rw[show sB.B80=H0 from hh]|rw[hh]
 refine S0 (E2 (tZ ?_));refine S0 (AU (T:="StopIteration") (b:=I0) ⟨_,DA _ O,O⟩ eZ ?_);exact E2 (hQ _ λ b o e=>vA _ _ _ _ (vA _ _ _ _ e))
end
def vC(G:Gh)(h:O1):It->H1->Prop
 |.W5 l,I=>∃S4 k vs n,BW0 h I S4 k/\C3 S4=E0 (F8 vs n)/\S4∉F5/\A4 G h l (bf k)
 |.DG i k,I=>i<J3/\rU0 I (Y2 i) k
 |_,_=>J6
def AH(G:Gh)(h:O1):It->K0->P0 H1->Prop
 |.W5 l,v,W=>∃I,v=.J0 I/\W=[I]/\vC G h (.W5 l) I
 |.DG i k,v,W=>∃I,v=.J0 I/\W=[I]/\vC G h (.DG i k) I
 |.jG a n,v,W=>∃I,v=.J0 I/\W=[I]/\ml h I (a:B2) ((n:B2)-a) 1
 |.v8 a b,v,W=>∃z TI TO i1 i2 x y,v=.J0 z/\W=[z,TO,i1,i2]/\TO∈F5/\TI∉F5/\i1≠i2/\zF h z TI TO .H0/\jC h TI (.J0 i1) (.J0 i2)/\jC h TO x y/\vC G h a i1/\vC G h b i2
 |.OE n a,v,W=>∃e i1 N8,v=.J0 e/\W=[e,i1]/\gP h e i1 (n:B2) N8/\vC G h a i1
theorem vC.O2{h:O1}{a:It}{I:H1}(x:vC G h a I):∃o,C3 I=E0 o/\(H4=.U0 "list_iterator"\/H4=.U0 "tuple_iterator"):=by
 cases a using QP with
 |W5 l=>obtain⟨_,_,_,_,x,_⟩:=x;obtain⟨o,e,c,_⟩:=x;exact⟨o,e,.L2 c⟩
 |DG i k=>obtain⟨_,x⟩:=x;obtain⟨o,e,c,_⟩:=x;exact⟨o,e,.S2 c⟩
 |_=>exact jD
theorem vC.move{h h':O1}(le:FO G')(Q0:CC F5 h h'){a:It}{I:H1}(x:vC G h a I)(hk:∀o,C3 I=E0 o->D3 I=E0 o):vC G' h' a I:=by
 cases a using QP with
 |W5 l=>
  obtain⟨S4,k,vs,n,x,e2,hz,r⟩:=x;obtain⟨o,e,c⟩:=x;exact⟨S4,k,vs,n,⟨o,hk o e,c⟩,Q0 _ _ _ hz e2,by rw[QU];exact hz,WI le Q0⟩
 |DG i k=>
  obtain⟨hi,x⟩:=x;obtain⟨o,e,c⟩:=x;exact⟨W8 hi Bf,⟨o,hk o e,by rw[IE i hi];exact c⟩⟩
 |_=>exact jD
theorem AH.K6{a:It}{v:K0}{W:P0 H1}(x:AH G W0 a v W)(st:A3 B F G s G' s')(hW:∀b∈W,x8 B G W0 b/\¬F b):AH G' U6 a v W:=by
 have k:∀b∈W,∀o,F3 b=E0 o->H4≠.U0 "frame"->H4≠.U0 "traceback"->VL b=E0 o:=λ b hb o e h1 h2=>(hW b hb).1.MC st (hW b hb).2 e h1 h2;have ng:∀{a:It}{I:H1},I∈W->vC G W0 a I->vC G' U6 a I:=λ{a I} hI hs=>hs.move IU JX λ o e=>by
  obtain⟨o',e',c⟩:=hs.O2;rw[e]at e';obtain O:=I3 e';rcases c with c|c<;>exact k I hI o e (by rw[c];simp -w4) (by rw[c];simp -w4)
 cases a using QP with
 |W5 l=>obtain⟨I,O,O,hs⟩:=x;exact⟨I,O,O,ng (by simp -w4) hs⟩
 |DG i n=>obtain⟨I,O,O,hs⟩:=x;exact⟨I,O,O,ng (by simp -w4) hs⟩
 |jG a n=>obtain⟨I,O,O,hs⟩:=x;exact⟨I,O,O,k I (by simp -w4) _ hs (by simp -w4) (by simp -w4)⟩
 |v8 a b=>
  obtain⟨z,TI,TO,i1,i2,x,y,O,O,h1,h2,h3,hz,wB,rA,s1,s2⟩:=x;exact⟨z,TI,TO,i1,i2,x,y,O,O,by rw[RX];exact h1,by rw[RX];exact h2,h3,k z (by simp -w4) _ hz (by simp -w4) (by simp -w4),JX TI [.J0 i1,.J0 i2] 0 h2 wB,k TO (by simp -w4) _ rA (by simp -w4) (by simp -w4),ng (by simp -w4) s1,ng (by simp -w4) s2⟩
 |OE n a=>
  obtain⟨e,i1,N8,O,O,he,s1⟩:=x;exact⟨e,i1,N8,O,O,k e (by simp -w4) _ he (by simp -w4) (by simp -w4),ng (by simp -w4) s1⟩
theorem FM0{h:O1}{l:PV}{vs:P0 K0}(r:A4 G h l vs):∀{n},cJ l n=H0->vs[n]?=H0:=by
 refine yG (C:=λ l vs=>∀{n},cJ l n=H0->vs[n]?=H0) (λ _=>O) (λ a r v q _ _ ih{n} h=>?_) r;induction n using TL with
 |K9=>contradiction
 |J9 n=>exact ih h
theorem dj{a:It}{I:H1}{γ:Type}{f:Q1 (PV×It)->M γ}{P:γ->K1->Prop}{X:C0->K1->Prop}(gd:J1 B A G s)(hs:vC G W0 a I)(hI:x8 B G W0 I)(M0:(F1 zP f R1).P1 P X):
  ∃S4 k H5,B7 W0 I S4 k H5/\(∃vs n,(F3 S4=E0 (F8 vs n)/\S4∉F5)\/F3 S4=E0 (qB vs n))/\
   ((H5[k]?=H0/\(f H0 R1).P1 P X)\/∃x p a',H5[k]?=E0 x/\H3 G W0 p x/\(f (E0 (p,a')) R1).P1 P X/\
    ∀h',CC F5 W0 h'->B7 h' I S4 (k+1) H5->(∀o,F3 S4=E0 o->D3 S4=E0 o)->vC G h' a' I):=by
 cases a using QP with
 |W5 l=>
  obtain⟨S4,k,vs,n,D7,e,hz,r⟩:=hs;have Z6:S4≠I:=λ q=>by obtain⟨o,eo,c,_⟩:=D7;rw[<-q,e]at eo;obtain O:=I3 eo;exact U3 c (by trivial)
  refine⟨S4,k,OB,⟨.L2 ⟨D7,⟨_,e,O,_,O⟩⟩,Z6⟩,⟨vs,n,.S2 ⟨e,hz⟩⟩,?_⟩;cases l using Q3 with
  |B0=>
   have r:bf k=[]:=r;refine .S2 ⟨?_,M0⟩;rw[Sr,P0.getElem?_eq_none_iff];exact P0.drop_eq_nil_iff.mp r
  |A0 p q=>
   obtain⟨x,xs,e2,rp,rq⟩:=r;refine .L2 ⟨x,p,.W5 q,?_,rp,M0,λ h' Q0 OD hk=>?_⟩
   ·rw[Sr];have:=H6 (λ l=>l[0]?) e2;simpa -w4 using J2
   ·have hd:bf (k+1)=xs:=by
     rw[<-eV0,e2];rfl
    rcases OD.is with⟨_,hl⟩|⟨zJ,_⟩
    ·obtain⟨o,eo,c,_⟩:=hl;rw[hk _ e]at eo;obtain O:=I3 eo;exact U3 c (by simp -w4)
    ·exact⟨S4,k+1,vs,n,zJ,Q0 _ _ _ hz e,hz,by rw[hd];exact MB0 rq (.M5 G) Q0⟩
  |_=>exact C4
 |DG i k=>
  obtain⟨hi,D7⟩:=hs;have M0:(F1 (λ s=>((match M8 i with|.M1 l=>(match cJ l k with|E0 a=>W1 (E0 (a,tW i (k+1)))|A2=>W1 A2)|_=>F2 63):M (Q1 (PV×It))) s) f R1).P1 P X:=M0;have M0:(F1 ((match P3 i with|.M1 l=>(match cJ l k with|E0 a=>W1 (E0 (a,tW i (k+1)))|A2=>W1 A2)|_=>F2 63):M (Q1 (PV×It))) f R1).P1 P X:=M0;generalize ex:P3 i=zo at M0;cases zo using FA with
  |M1 l=>
   obtain⟨vs,n,e,rl⟩:=BN gd hi ex;have Z6:Y2 i≠I:=λ q=>hI.v9 ⟨i,hi,by rw[ex];simp -w4,q⟩;refine⟨Y2 i,k,OB,⟨.S2 ⟨D7,R9 e⟩,Z6⟩,⟨vs,n,.L2 e⟩,?_⟩;change(F1 (match cJ l k with|E0 a=>W1 (E0 (a,tW i (k+1)))|A2=>W1 A2) f R1).P1 P X at M0;cases hn:cJ l k with
   |H0=>
    rw[hn]at M0;refine .S2 ⟨?_,M0⟩;rw[Sr];exact FM0 rl hn
   |E0 p=>
    rw[hn]at M0;obtain⟨u,hu,ru⟩:=Eu rl hn;refine .L2 ⟨u,p,.DG i (k+1),by rw[Sr];exact hu,ru,M0,λ h' Q0 OD hk=>⟨hi,?_⟩⟩;rcases OD.is with⟨zJ,_⟩|⟨_,hl⟩
    ·exact zJ
    ·obtain⟨o,eo,c,_⟩:=hl;rw[hk _ e]at eo;obtain O:=I3 eo;exact U3 c (by simp -w4)
  |_=>exact C4
 |jG=>exact WB0
 |v8=>exact WB0
 |OE=>exact WB0
end
end
section
section
open PyProof.Rows
variable{B:Bs}{A:Around}{G G':Gh}{s s':Shared}{F:Addr->Prop}{FZ:Nat->Bool}
set_option backward.match.sparseCases true in
theorem w40{M:YB}{E:K0->D1->Prop}{Q4:C1}{I:H1}{u:K0}{o:D4}{Q:T7->D1->Prop}(ho:F3 I=E0 o)(hc:H4=.U0 "list_iterator"\/H4=.U0 "tuple_iterator"\/H4=.U0 "range_iterator")(h:Q () s):
  V0 M A (cb Q4 (.J0 I) u) Q E s:=by
 have hp:V0 M A (L4 ()) Q E s:=E2 h;have U7:V0 M A (do
   let(.J0 r,.J0 a):=((x6 I,u):K0×K0)|return
   let o <-load r
   match H4,I9 with
   |.U0 n,.T5 vs=>
    if["enumerate","zip","dict_itemiterator","dict_reverseitemiterator","odict_iterator","itertools.zip_longest","itertools.pairwise"].VG n&&vs[0]?==E0 (j5 a)then
     rule "for.unpacks-the-owned-tuple"
     updateField r 0 .H0
   |_,_=>L4 ()) Q E s:=by
  cases u using LP with
  |J0 a=>
   refine S0 (yl ho ?_);obtain⟨n,hn,Z6⟩:∃n,H4=.U0 n/\["enumerate","zip","dict_itemiterator","dict_reverseitemiterator","odict_iterator","itertools.zip_longest","itertools.pairwise"].VG n=R0:=by
    rcases hc with c|c|c<;>exact⟨_,c,by decide⟩
   rw[hn];generalize I9=dt;cases dt with
   |T5 vs=>dsimp only;rw[Z6];exact hp
   |_=>exact hp
  |_=>exact hp
 cases Q4<;>first|exact U7|exact hp
def CJ:It->I1
 |.v8 _ _=>I0
 |.OE _ _=>I0
 |_=>R0
def BH(W:P0 H1)(b:H1):Prop:=b∈W
theorem fj{h:O1}{T:H1}{p q:PV}{x y:K0}(hT:C3 T=E0 (F8 [x,y] 0))(hz:T∉F5)(rx:H3 G h p x)(ry:H3 G h q y):H3 G h (.Q0 (.A0 p (.A0 q .B0))) (.J0 T):=
 ⟨T,[x,y],0,O,hz,hT,x,[y],O,rx,y,[],O,ry,O⟩
theorem x40(gd:J1 B A G s):P2∉F5:=λ q=>by
 obtain⟨_,o,e⟩:=ln _ q;exact U3 (r9 e) (fZ _)
def Gd(B:Bs)(A:C6)(s:D1)(Q4:C1)(v:K0)(Kn:D1->Prop)(Ks E:K0->D1->Prop):Prop:=
 V0 R2 A (vF v) (λ r s1=>match r with|H0=>Kn s1|E0 u=>V0 R2 A (cb Q4 v u) (λ _ s2=>Ks u s2) E s1) E s
def ZT(G:Gh)(h:O1)(b:H1):Prop:=∀o,C3 b=E0 o->H4≠.U0 "frame"/\H4≠.U0 "traceback"/\H4≠.U0 "code"/\(b∉F5->H4≠.U0 "tuple")
theorem y40{h:O1}{b:H1}{o:D4}{t:V6}(e:C3 b=E0 o)(c:H4=.U0 t)(n:t≠"frame"/\t≠"traceback"/\t≠"code")(m:b∉F5->t≠"tuple"):ZT G h b:=λ o' e'=>by
 obtain O:=I3 (e'.ZZ e);rw[c];exact⟨Mc n.1,Mc n.2.1,Mc n.2.2,λ q=>Mc (m q)⟩
theorem uY{h:O1}{b:H1}{o:D4}{t:V6}(e:C3 b=E0 o)(c:H4=.U0 t)(n:(t≠"frame"/\t≠"traceback"/\t≠"code")/\t≠"tuple"):ZT G h b:=y40 e c n.1 λ _=>n.2
theorem Jd{h:O1}{b:H1}{o:D4}(e:C3 b=E0 o)(c:H4=.U0 "list_iterator"\/H4=.U0 "tuple_iterator"):ZT G h b:=Mo (λ c=>uY e c (by decide)) λ c=>uY e c (by decide)
theorem Wz{W:P0 H1}{h':O1}{tk:P6}(gd:J1 B A G s)(sA:∀b∈W,x8 B G W0 b)(h4:∀b∈W,ZT G W0 b)(hk:∀b o,b∉W->F3 b=E0 o->D3 b=E0 o)(ha:∀b∈W,∃o,D3 b=E0 o):
  J1 B A G {s with B3:=h',B4:=tk}/\A3 B (BH W) G s G {s with B3:=h',B4:=tk}:=gd.wr (λ b hb=>⟨sA b hb,hb,h4 b hb⟩) hk ha
theorem gj{W:P0 H1}{I:H1}{h':O1}{tk:P6}(gd:J1 B A G s)(sA:∀b∈W,x8 B G W0 b)(hW:W=[I])(h4:ZT G W0 I)(hk:∀b o,b≠I->F3 b=E0 o->D3 b=E0 o)(ha:∃o,D3 I=E0 o):
  J1 B A G {s with B3:=h',B4:=tk}/\A3 B (BH W) G s G {s with B3:=h',B4:=tk}:=
 Wz gd sA (λ b hb=>vT (hW▸hb)▸h4) (λ b o hb e=>hk b o (λ q=>hb (hW▸Pi q)) e) λ b hb=>vT (hW▸hb)▸ha
theorem A50{z t i j:H1}:∀{b},b∈[z,t,i,j]↔b=z\/b=t\/b=i\/b=j:=by simp
theorem B50{i j:H1}:∀{b},b∈[i,j]↔b=i\/b=j:=by simp
theorem GM0{a a':It}{v:K0}{W:P0 H1}{I:H1}{h h':O1}(hv:v=.J0 I)(hW:W=[I])(hs:vC G h a I)(sa:vC G h' a' I):AH G h' a' v W/\CJ a'=CJ a:=by
 have e:∀{a:It}{h:O1},vC G h a I->CJ a=R0:=λ{a h} x=>by
  cases a using QP with
  |W5=>rfl
  |DG=>rfl
  |_=>exact jD
 refine⟨?_,(e sa).U2 (e hs).Z3⟩;cases a' using QP with
 |W5=>exact⟨I,hv,hW,sa⟩
 |DG=>exact⟨I,hv,hW,sa⟩
 |_=>exact sa.KB
section
variable{W:List Addr}{γ:Type}{f:Option (PV×It)->M γ}{P:γ->K1->Prop}{X:Nat->K1->Prop}{Kn:Shared->Prop}{Ks:Value->Shared->Prop}{E:Value->Shared->Prop}
theorem C50{a:It}{I:H1}{Q4:C1}(hh:F9=H0)(gd:J1 B A G s)(sA:∀b∈W,x8 B G W0 b)(M0:(F1 zP f R1).P1 P X)
  (hn:∀s',A3 B (BH W) G s G s'->J1 B A G s'->(f H0 R1).P1 P X->Kn s')
  (hs:∀s' p u a',A3 B (BH W) G s G s'->J1 B A G s'->H3 G U6 p u->CJ a'=CJ a->AH G U6 a' (.J0 I) W->(f (E0 (p,a')) R1).P1 P X->Ks u s')
  (hW:W=[I])(Qa:vC G W0 a I):Gd B A s Q4 (.J0 I) Kn Ks E:=by
 symm;obtain⟨o,eo,co⟩:=Qa.O2;obtain⟨S4,k,H5,KL,hkind,hres⟩:=dj gd Qa (sA I (by rw[hW];exact Pi O)) M0;rcases hres with⟨hx,hf⟩|⟨u,p,a',hx,ru,hf,eK⟩
 ·ext;refine Gv hh KL hx λ h' HM0 ha=>?_;obtain⟨g1,C2⟩:=gj (h':=h') (tk:=X4) gd sA hW (Jd eo co) (λ b o hb e=>HM0 b o hb e) ha;exact hn _ C2 g1 hf
 ·ext;refine Fv KL hx λ h' D50 yJ=>?_;have ha:∃o,D3 I=E0 o:=by obtain⟨⟨o,e,_⟩,_⟩:=D50.l9;exact⟨o,e⟩
  symm;obtain⟨g1,C2⟩:=gj (h':=h') (tk:=X4) gd sA hW (Jd eo co) (λ b o hb e=>lL b o hb e) ha;have sa:=eK h' h_ D50 λ o e=>lL _ _ KL.ne e;obtain⟨o',eo',co'⟩:=sa.O2;obtain⟨ia,pa⟩:=GM0 O hW Qa sa;ext;exact w40 eo' (co'.QM id .S2) (hs _ p u a' C2 g1 (SK C2) pa ia hf)
theorem IM0{m n:C0}{I:H1}{Q4:C1}(hh:F9=H0)(gd:J1 B A G s)(sA:∀b∈W,x8 B G W0 b)(M0:(F1 (gU m n).W4 f R1).P1 P X)
  (hn:∀s',A3 B (BH W) G s G s'->J1 B A G s'->(f H0 R1).P1 P X->Kn s')
  (hs:∀s' p u a',A3 B (BH W) G s G s'->J1 B A G s'->H3 G U6 p u->CJ a'=R0->AH G U6 a' (.J0 I) W->(f (E0 (p,a')) R1).P1 P X->Ks u s')
  (hW:W=[I])(D7:ml W0 I (m:B2) ((n:B2)-m) 1):Gd B A s Q4 (.J0 I) Kn Ks E:=by
 symm;change(F1 (bif Y6 m n then W1 (E0 (iU (.O4 m),gU (m+1) n))else W1 H0) f R1).P1 P X at M0;have p4:ZT G W0 I:=uY D7 O (by decide);cases ZF:Y6 m n with
 |I0=>
  rw[ZF]at M0;have M0:(f (E0 (iU (.O4 m),gU (m+1) n)) R1).P1 P X:=M0;have hmn:m<n:=by simpa[IH]using ZF
  ext;refine wpAny_pyNext_range_item D7 (by exact ω84 ‹_›) λ h' zJ yJ=>?_;obtain⟨g1,C2⟩:=gj (h':=h') (tk:=X4+1) gd sA hW p4 (λ b o hb e=>lL b o hb e) ⟨_,zJ⟩;refine w40 zJ (.L2 (.L2 O)) (hs _ (.j0 (.O4 m)) _ (.jG (m+1) n) C2 g1 ⟨_,O⟩ O ⟨I,O,hW,?_⟩ M0);have e2:(n:B2)-((m+1:C0):B2)=(n:B2)-m-1:=by push_cast;exact(B2.sub_sub _ _ _).Z3
  rw[e2];exact zJ
 |R0=>
  rw[ZF]at M0;ext;have hmn:¬m<n:=by intro q;rw[show Y6 m n=I0 from(by simpa[IH]using q)]at ZF;exact I1.noConfusion ZF
  refine EM0 hh D7 (by exact ω75 ‹_›) λ h' hk=>?_;obtain⟨g1,C2⟩:=gj (h':=h') (tk:=X4) gd sA hW p4 (λ b o _ e=>hk b o e) ⟨_,hk _ _ D7⟩;exact hn _ C2 g1 M0
theorem FN{h:O1}{i c:H1}{o o':D4}{t:V6}(e:C3 i=E0 o)(k:H4=.U0 "list_iterator"\/H4=.U0 "tuple_iterator")(e':C3 c=E0 o')(k':YK=.U0 t)(n:"list_iterator"≠t/\"tuple_iterator"≠t):i≠c:=
 k.KB (λ k=>rM e e' k k' n.1) λ k=>rM e e' k k' n.2
def jj(G:Gh)(h:O1)(l:H1):Prop:=∃vs n,(C3 l=E0 (F8 vs n)/\l∉F5)\/C3 l=E0 (qB vs n)
theorem E50{h:O1}{z TI TO i1 i2 l1 l2:H1}{x0 y0:K0}{o1 o2:D4}(pQ:TO∈F5)(aT:TI∉F5)(tV:i1≠i2)(hz:zF h z TI TO .H0)(wB:jC h TI (.J0 i1) (.J0 i2))(rA:jC h TO x0 y0)
  (e1:C3 i1=E0 o1)(c1:o1.O2=.U0 "list_iterator"\/o1.O2=.U0 "tuple_iterator")(e2:C3 i2=E0 o2)(c2:o2.O2=.U0 "list_iterator"\/o2.O2=.U0 "tuple_iterator")(qI:jj G h l1)(eG:jj G h l2):Ze z TI TO i1 i2 l1 l2:=by
 have F50:∀{l:H1},jj G h l->l≠z/\l≠TO/\l≠i1/\l≠i2:=λ{l} x=>by
  obtain⟨vs,n,x⟩:=x;rcases x with⟨e,SO⟩|e
  ·exact⟨rM e hz O O (by decide),λ q=>SO (q▸pQ),(FN e1 c1 e O (by decide)).Z3,(FN e2 c2 e O (by decide)).Z3⟩
  ·exact⟨rM e hz O O (by decide),rM e rA O O (by decide),(FN e1 c1 e O (by decide)).Z3,(FN e2 c2 e O (by decide)).Z3⟩
 obtain⟨a1,a2,a3,a4⟩:=F50 qI;obtain⟨b1,b2,b3,b4⟩:=F50 eG;exact⟨rM wB hz O O (by decide),rM rA hz O O (by decide),FN e1 c1 hz O (by decide),FN e2 c2 hz O (by decide),λ q=>aT (q▸pQ),(FN e1 c1 wB O (by decide)).Z3,(FN e2 c2 wB O (by decide)).Z3,
  (FN e1 c1 rA O (by decide)).Z3,(FN e2 c2 rA O (by decide)).Z3,tV,a1,a2,a3,a4,b1,b2,b3,b4⟩
theorem JM0{a b:It}{z TI TO i1 i2:H1}{x0 y0:K0}{te:P0 C1}{Sa:C0}{tp:T3}(hh:F9=H0)(gd:J1 B A G s)(sA:∀b∈W,x8 B G W0 b)(M0:(F1 (xz a b).W4 f R1).P1 P X)
  (hn:∀s',A3 B (BH W) G s G s'->J1 B A G s'->(f H0 R1).P1 P X->Kn s')
  (hs:∀s' p u a',A3 B (BH W) G s G s'->J1 B A G s'->H3 G U6 p u->CJ a'=I0->AH G U6 a' (.J0 z) W->(f (E0 (p,a')) R1).P1 P X->Ks u s')
  (hW:W=[z,TO,i1,i2])(pQ:TO∈F5)(aT:TI∉F5)(tV:i1≠i2)(hz:zF W0 z TI TO .H0)(wB:jC W0 TI (.J0 i1) (.J0 i2))(rA:jC W0 TO x0 y0)(s1:vC G W0 a i1)(s2:vC G W0 b i2):Gd B A s (.U9 te Sa tp) (.J0 z) Kn Ks E:=by
 symm;have m1:i1∈W:=hW▸HB0 (.L2 (.L2 (.S2 O)));have m2:i2∈W:=hW▸HB0 (.L2 (.L2 (.L2 O)));obtain⟨o1,e1,c1⟩:=s1.O2;obtain⟨o2,e2,c2⟩:=s2.O2;have wr4:∀{h':O1}{tk:P6},(∀c o,c≠z->c≠TO->c≠i1->c≠i2->F3 c=E0 o->D3 c=E0 o)->(∀c,c=z\/c=TO\/c=i1\/c=i2->∃o,D3 c=E0 o)->
   J1 B A G {s with B3:=h',B4:=tk}/\A3 B (BH W) G s G {s with B3:=h',B4:=tk}:=λ hk ha=>
  Wz gd sA (λ b hb=>Wi (P:=ZT G W0) (A50.mp (hW▸hb)) (uY hz O (by decide)) (y40 rA O (by decide) λ z=>U3 pQ z) (Jd e1 c1) (Jd e2 c2))
   (λ b o hb e=>have hb:=λ q=>hb (hW▸HB0 q);hk b o (λ q=>hb (.S2 q)) (λ q=>hb (.L2 (.S2 q))) (λ q=>hb (.L2 (.L2 (.S2 q)))) (λ q=>hb (.L2 (.L2 (.L2 q)))) e) λ b hb=>ha b (A50.mp (hW▸hb))
 have E4:(F1 zP (λ x=>F1 ((match x with
   |E0 p=>F1 b.W4 λ y=>(match y with
    |E0 q=>W1 (E0 (Hn (.A0 p.1 (.A0 q.1 .B0)),xz p.2 q.2))
    |H0=>W1 H0)
   |H0=>W1 H0):M (Q1 (PV×It))) f) R1).P1 P X:=DB M0
 obtain⟨l1,k1,xs,mH,qI,Hv⟩:=dj gd s1 (sA i1 m1) E4;have hT:fC (.J0 z) "zip":=⟨_,hz,O⟩;have stop:∀{l2:H1}{k2:C0}{ys:M4 K0},jj G W0 l2->(xs[k1]?=H0\/(B7 W0 i2 l2 k2 ys/\ys[k2]?=H0))->(f H0 R1).P1 P X->Gd B A s (.U9 te Sa tp) (.J0 z) Kn Ks E:=λ{l2 k2 ys} eG tU hf=>by
  refine S0 (JI (lF (W2:=EA "__next__") hT RL
   (TC RL hT Kb (t40 hh (E50 pQ aT tV hz wB rA e1 c1 e2 c2 qI eG) hz wB rA mH ⟨o2,e2⟩ tU λ h' e hk he ha=>?_) (Db _))))
  obtain⟨o,ho,hc⟩:=he;refine S0 (AU (T:="StopIteration") (b:=I0) ⟨o,ho,hc⟩ eZ ?_);obtain⟨g1,C2⟩:=wr4 (h':=h') (tk:=X4) hk ha;exact E2 (hn _ C2 g1 hf)
 rcases Hv with⟨hx,hf⟩|⟨u,p,a',hx,ru,hf,Iv⟩
 ·ext;exact stop (k2:=k1) (ys:=xs) qI (.S2 hx) hf
 ·have B5:(F1 b.W4 (λ y=>F1 ((match y with
    |E0 q=>W1 (E0 (Hn (.A0 p (.A0 q.1 .B0)),xz a' q.2))
    |H0=>W1 H0):M (Q1 (PV×It))) f) R1).P1 P X:=DB hf
  obtain⟨l2,k2,ys,kH,eG,KM0⟩:=dj gd s2 (sA i2 m2) B5;rcases KM0 with⟨hy,MS⟩|⟨u2,p2,b',hy,uV,MS,LM0⟩
  ·ext;exact stop eG (.L2 ⟨kH,hy⟩) MS
  ·have MS:(f (E0 (Hn (.A0 p (.A0 p2 .B0)),xz a' b')) R1).P1 P X:=MS;have D:=E50 pQ aT tV hz wB rA e1 c1 e2 c2 qI eG;ext;clear stop E4 B5 M0 hn;refine S0 (JI (lF (W2:=EA "__next__") hT RL
    (TC RL hT Kb (p40 D hz wB rA mH kH hx hy λ h' SO kj Kd og kK Z7 hk=>E2 ?_) (Db _))))
   have zT:z≠P2:=ZC (r9 hz);refine wpAny_letOwnedTupleGo_zip SO λ XJ G50 yJ=>?_;symm;have up:∀c o,c≠z->D3 c=E0 o->N_ c=E0 o:=λ c o hc e=>lL c o hc e;have Jv:∀c o,c≠z->c≠TO->c≠i1->c≠i2->F3 c=E0 o->N_ c=E0 o:=λ c o c1 c2 c3 c4 e=>up c o c1 (hk c o c1 c2 c3 c4 e);have H50:B7 XJ i1 l1 (k1+1) xs:=Kd.at (λ o e=>up _ o eP e) λ o e=>up _ o sR e;have I50:B7 XJ i2 l2 (k2+1) ys:=og.at (λ o e=>up _ o BO e) λ o e=>up _ o V_ e;ext;have th:∀{i l k xs},B7 XJ i l k xs->∃o,N_ i=E0 o:=λ x=>by obtain⟨⟨o,e,_⟩,_⟩:=x.l9;exact⟨o,e⟩
   obtain⟨g1,C2⟩:=wr4 (h':=XJ) (tk:=X4) Jv λ c hc=>Wi (P:=λ c=>∃o,N_ c=E0 o) hc ⟨_,G50⟩ ⟨_,up _ _ zN kj⟩ (th H50) (th I50);refine hs _ _ _ (.v8 a' b') C2 g1 (fj (up _ _ zT.Z3 kK) (x40 gd) (SK C2) (uV.K6 C2)) O ?_ MS;exact⟨z,TI,TO,i1,i2,_,_,O,hW,pQ,aT,tV,G50,h_ TI [.J0 i1,.J0 i2] 0 aT wB,up _ _ zN kj,
    Iv XJ h_ H50 λ o e=>Jv _ o sR pA0 D.l1i1 qA0 e,LM0 XJ h_ I50 λ o e=>Jv _ o V_ iy km D.l2i2 e⟩
theorem MM0{a:It}{n:C0}{e i1:H1}{N8:K0}{te:P0 C1}{Sa:C0}{tp:T3}(hh:F9=H0)(gd:J1 B A G s)(sA:∀b∈W,x8 B G W0 b)(M0:(F1 (XB0 n a).W4 f R1).P1 P X)
  (hn:∀s',A3 B (BH W) G s G s'->J1 B A G s'->(f H0 R1).P1 P X->Kn s')
  (hs:∀s' p u a',A3 B (BH W) G s G s'->J1 B A G s'->H3 G U6 p u->CJ a'=I0->AH G U6 a' (.J0 e) W->(f (E0 (p,a')) R1).P1 P X->Ks u s')
  (hW:W=[e,i1])(he:gP W0 e i1 (n:B2) N8)(s1:vC G W0 a i1):Gd B A s (.U9 te Sa tp) (.J0 e) Kn Ks E:=by
 obtain⟨o1,e1,c1⟩:=s1.O2;have Z6:e≠i1:=(FN e1 c1 he O (by decide)).Z3;have wr2:∀{h':O1}{tk:P6},(∀c o,c≠e->c≠i1->F3 c=E0 o->D3 c=E0 o)->(∃o,D3 e=E0 o)->(∃o,D3 i1=E0 o)->
   J1 B A G {s with B3:=h',B4:=tk}/\A3 B (BH W) G s G {s with B3:=h',B4:=tk}:=λ{h' tk} hk a1 a2=>
  Wz gd sA (λ b hb=>Vi (P:=ZT G W0) (B50.mp (hW▸hb)) (uY he O (by decide)) (Jd e1 c1))
   (λ b o hb e=>have hb:=λ q=>hb (hW▸B50.C8 q);hk b o (λ q=>hb (.S2 q)) (λ q=>hb (.L2 q)) e) λ b hb=>Vi (P:=λ b=>∃o,D3 b=E0 o) (B50.mp (hW▸hb)) a1 a2
 have E4:(F1 zP (λ x=>F1 ((match x with
   |E0 p=>W1 (E0 (Hn (.A0 (.j0 (.O4 n)) (.A0 p.1 .B0)),XB0 (n+1) p.2))
   |H0=>W1 H0):M (Q1 (PV×It))) f) R1).P1 P X:=DB M0
 obtain⟨l1,k1,xs,mH,qI,Hv⟩:=dj gd s1 (sA i1 (hW▸B50.C8 (.L2 O))) E4;have lH:l1≠e:=by
  obtain⟨vs,n,x⟩:=qI;exact jD (λ x=>rM x.1 he O O (by decide)) λ x=>rM x he O O (by decide)
 have hT:fC (.J0 e) "enumerate":=⟨_,he,O⟩;clear E4 M0;rcases Hv with⟨hx,hf⟩|⟨u,p,a',hx,ru,hf,Iv⟩
 ·clear hs;refine S0 (JI (lF (W2:=EA "__next__") hT CR
   (TC CR hT fi (DM0 hh he mH hx λ h' e' hk WO ti=>?_) (ph _))))
  obtain⟨o,ho,hc⟩:=WO;refine S0 (AU (T:="StopIteration") (b:=I0) ⟨o,ho,hc⟩ eZ ?_);obtain⟨g1,C2⟩:=wr2 (h':=h') (tk:=X4) (λ c o _ c2 e=>hk c o c2 e) ⟨_,hk _ _ Z6 he⟩ ti;exact E2 (hn _ C2 g1 hf)
 ·have hf:(f (E0 (Hn (.A0 (.j0 (.O4 n)) (.A0 p .B0)),XB0 (n+1) a')) R1).P1 P X:=hf;clear hn;refine S0 (JI (lF (W2:=EA "__next__") hT CR
   (TC CR hT fi (v40 he mH hx Z6 lH λ h' pI Ld kK Z7 hk=>E2 ?_) (ph _))))
  have zT:e≠P2:=ZC (r9 he);refine wpAny_letOwnedTupleGo_enum pI λ XJ J50 yJ=>?_;have up:∀c o,c≠e->D3 c=E0 o->N_ c=E0 o:=λ c o hc e=>lL c o hc e;have eG:∀c o,c≠e->c≠i1->F3 c=E0 o->N_ c=E0 o:=λ c o c1 c2 e=>up c o c1 (hk c o c1 c2 e);have K50:B7 XJ i1 l1 (k1+1) xs:=Ld.at (λ o e=>up _ o ZR e) λ o e=>up _ o lH e;obtain⟨g1,C2⟩:=wr2 (h':=XJ) (tk:=X4+1) eG ⟨_,J50⟩ (by obtain⟨⟨o,e,_⟩,_⟩:=K50.l9;exact⟨o,e⟩);refine hs _ _ _ (.OE (n+1) a') C2 g1 (fj (p:=.j0 (.O4 n)) (up _ _ zT.Z3 kK) (x40 gd) ⟨X4,O⟩ (SK C2)) O ⟨e,i1,u,O,hW,by rw[show((n+1:C0):B2)=(n:B2)+1 from by push_cast;rfl];exact J50,?_⟩ hf;exact Iv XJ h_ K50 λ o e=>eG _ o lH mH.ne e
theorem mj{a:It}{v:K0}{W:P0 H1}{Q4:C1}(hh:F9=H0)(gd:J1 B A G s)(x:AH G W0 a v W)(sA:∀b∈W,x8 B G W0 b)(ht:CJ a=I0->∃e k p,Q4=.U9 e k p)
  {γ:Type}{f:Q1 (PV×It)->M γ}{P:γ->K1->Prop}{X:C0->K1->Prop}(M0:(F1 zP f R1).P1 P X){Kn:D1->Prop}{Ks:K0->D1->Prop}{E:K0->D1->Prop}
  (hn:∀s',A3 B (BH W) G s G s'->J1 B A G s'->(f H0 R1).P1 P X->Kn s')
  (hs:∀s' p u a',A3 B (BH W) G s G s'->J1 B A G s'->H3 G U6 p u->CJ a'=CJ a->AH G U6 a' v W->(f (E0 (p,a')) R1).P1 P X->Ks u s'):
  V0 R2 A (vF v) (λ r s1=>match r with|H0=>Kn s1|E0 u=>V0 R2 A (cb Q4 v u) (λ _ s2=>Ks u s2) E s1) E s:=by
 cases a using QP with
 |W5 l=>obtain⟨I,O,hW,x⟩:=x;exact C50 hh gd sA M0 hn hs hW x
 |DG i k=>obtain⟨I,O,hW,x⟩:=x;exact C50 hh gd sA M0 hn hs hW x
 |jG m n=>obtain⟨I,O,hW,x⟩:=x;exact IM0 hh gd sA M0 hn hs hW x
 |v8 a b=>
  symm;obtain⟨te,Sa,tp,O⟩:=ht O;obtain⟨z,TI,TO,i1,i2,x0,y0,O,hW,pQ,aT,tV,hz,wB,rA,s1,s2⟩:=x;ext;exact JM0 hh gd sA M0 hn hs hW pQ aT tV hz wB rA s1 s2
 |OE n a=>
  symm;obtain⟨te,Sa,tp,O⟩:=ht O;obtain⟨e,i1,N8,O,hW,he,s1⟩:=x;ext;exact MM0 hh gd sA M0 hn hs hW he s1
end
end
end
section
section
open PyProof.Rows
variable{B:Bs}{A:Around}{G G':Gh}{s s':Shared}{F:Addr->Prop}{FZ:Nat->Bool}
def Gh.qW(G:Gh)(l:P0 H1):Gh:=⟨R1,Y2,J5,l⟩
theorem vG.qW{G:Gh}{i:C0}{e:K0}{l:P0 H1}(x:vG G i e):vG (NO l) i e:=by obtain⟨a,b,c,d,f,h⟩:=x;exact⟨a,b,c,d,f,h⟩
section
variable{h h':Heap}{l:List Addr}
def LL(G:Gh)(h:O1)(l:P0 H1)(h':O1):Prop:=∀b vs k,b∉F5->C3 b=E0 (F8 vs k)->b∉l/\D3 b=E0 (F8 vs k)
theorem Nd(hk:LL G h l h'){p:PV}{v:K0}(x:H3 G h p v):H3 (NO l) h' p v:=
 (XY (B8 _) (λ _ _=>O) hk (λ i v x=>⟨x.1,AL hk x.2⟩) (λ i v x=>⟨x.1,AL hk x.2⟩) (λ i v x=>⟨x.1,AL hk x.2⟩) p).1 v x
theorem L50(hk:LL G h l h'){p:PV}{v:P0 K0}(x:A4 G h p v):A4 (NO l) h' p v:=
 (XY (B8 _) (λ _ _=>O) hk (λ i v x=>⟨x.1,AL hk x.2⟩) (λ i v x=>⟨x.1,AL hk x.2⟩) (λ i v x=>⟨x.1,AL hk x.2⟩) p).2 v x
theorem M50(hk:LL G h l h'):∀{p:PV}{v:P0 (u0×K0)},U8 G h p v->U8 (NO l) h' p v:=by
 intro p;induction p with
 |kv k v r _ ih=>exact λ Z2=>by obtain⟨x,u,q,e,h0,hx,hv,hr⟩:=Z2;exact⟨x,u,q,e,h0,hx,Nd hk hv,ih hr⟩
 |B0=>exact λ x=>x
 |_=>exact λ x=>jD
theorem N50(hk:LL G h l h')(k3:XE h h'){a:H1}{o:AO}(x:zE B G h a o)(ha:∀ob,C3 a=E0 ob->D3 a=E0 ob):zE B (NO l) h' a o:=by
 cases o using FA with
 |K4=>trivial
 |M1 l=>obtain⟨vs,k,e,r⟩:=x;exact⟨vs,k,ha _ e,L50 hk r⟩
 |H2 l=>obtain⟨V2,⟨o,es,ep,e,q⟩,r⟩:=x;exact⟨V2,⟨o,es,ep,ha _ e,q⟩,M50 hk r⟩
 |W6 l=>obtain⟨V2,o,e,hc,hn,nd,r⟩:=x;exact⟨V2,o,ha _ e,hc,hn.at λ o e=>ha _ e,nd,M50 hk r⟩
 |w7 c d=>obtain⟨e,hl,q⟩:=x;exact⟨ha _ e,hl,q⟩
 |K8 cx c d=>obtain⟨vs,e,hl,q,t⟩:=x;exact⟨vs,ha _ e,hl,q,k3.pW0 t⟩
 |qA k=>
  refine B.jI0 k h h' a (λ b o e q=>?_) x;rcases q with O|q
  ·exact ha _ e
  ·exact k3.bA b o e q
 |bm f s=>obtain⟨u,e,r⟩:=x;exact⟨u,ha _ e,Nd hk r⟩
 |S4=>obtain⟨x,t,y,u,k,e⟩:=x;exact⟨x,t,y,u,k,ha _ e⟩
 |ti=>exact jD
end
theorem J1.grow{h':O1}{tk:P6}{l:P0 H1}(g:J1 B A G s)(k:∀b o,F3 b=E0 o->D3 b=E0 o)(hl:∀b∈l,P2<=b/\∃o,D3 b=E0 o):
  J1 B A (NO (l++F5)) {s with B3:=h',B4:=tk}:=by
 have k3:=wm k;have hk:LL G W0 (l++F5) h':=λ b vs n hb e=>⟨λ q=>by
  rcases Kj q with q|q
  ·exact U3 (r9 e) (lb (hl b q).1)
  ·exact hb q,k _ _ e⟩
 obtain⟨fr,C9,OO⟩:=WJ;refine⟨⟨Tn,Wm,On⟩,⟨UG,λ i hi=>N50 hk k3 (HA i hi) λ ob e=>k _ _ e,kL,yC,λ a ha=>?_⟩,λ b o e h1 h2 h3=>k _ _ (VB b o e h1 h2 h3),
  xR _ _ (λ b o e _=>k _ _ e) lE,fr,C9,Un k3⟩
 rcases Kj ha with q|q
 ·exact⟨(aN g (hl a q).1).2.1,(hl a q).2⟩
 ·obtain⟨h1,o,e⟩:=DE a q;exact⟨h1,o,k _ _ e⟩
theorem J1.TF{l:P0 H1}(g:J1 B A G s)(hl:∀b∈l,b∈F5):J1 B A (NO l) s:=by
 have hk:LL G W0 l W0:=λ b vs n hb e=>⟨λ q=>hb (hl b q),e⟩;obtain⟨fr,C9,OO⟩:=WJ;exact⟨⟨Tn,Wm,On⟩,⟨UG,λ i hi=>N50 hk (.M5 _) (HA i hi) λ ob e=>e,kL,yC,λ a ha=>DE a (hl a ha)⟩,VB,lE,fr,C9,OO⟩
theorem yz{N0:o6}{D:u0->Prop}{O0:PV}{h h':O1}{l:P0 H1}(x:V5 B N0 D O0 G h)(hk:LL G h l h')(k:∀b o,C3 b=E0 o->D3 b=E0 o):V5 B N0 D O0 (NO l) h':=by
 obtain⟨m,hn,hm⟩:=x.ns;have kc:∀{c u},h.cW c u->m00 c u:=λ zz=>o_ zz λ o e d=>⟨o,k _ _ e,d⟩;refine⟨⟨m,Pn hn λ o e=>⟨o,k _ _ e,O⟩,λ y v h1 h2 h3 h4=>?_⟩,λ y v h1 h3 h4=>?_,λ y c hl=>?_,x.rU,x.dP,Gg,Fg,x00⟩
 ·obtain⟨u,hu,r⟩:=hm y v h1 h2 h3 h4;exact⟨u,hu,Nd hk r⟩
 ·obtain⟨c,u,hl,hc,r⟩:=x.l6 y v h1 h3 h4;exact⟨c,u,hl,kc hc,Nd hk r⟩
 ·obtain⟨u,hu⟩:=x.ai y c hl;exact⟨u,kc hu⟩
theorem dy{h':O1}{tk:P6}{l:P0 H1}{F':H1->Prop}(k:∀b o,F3 b=E0 o->D3 b=E0 o)(hl:∀b∈l,F3 b=H0)
  (st:A3 B F (NO (l++F5)) {s with B3:=h',B4:=tk} G' s')(hF:∀b,F b->F' b\/F3 b=H0):A3 B F' G s (A00 F5) s':=by
 obtain⟨h2,t2,O⟩:=Pf;refine⟨⟨h2,t2,O⟩,⟨IU.n,j_,O,IU.m,st.TX⟩,λ b hb=>?_,λ b o e=>mf b o (k b o e),λ b o e h1 h3 h4=>MX b o (k b o e) h1 (λ q=>?_) h4,λ b vs n hb e=>JX b vs n (λ q=>?_) (k _ _ e),(wm k).U2 DX⟩
 ·rcases Tf b hb with h|h
  ·exact .S2 h
  ·refine .L2 ?_;cases e:F3 b with
   |H0=>rfl
   |E0 o=>have:=k b o e;rw[show({s with B3:=h',B4:=tk}:D1).B3.X5 b=D3 b from O,J2]at h;contradiction
 ·rcases hF b q with q|q
  ·exact h3 q
  ·rw[e]at q;contradiction
 ·rcases Kj q with q|q
  ·rw[hl b q]at e;contradiction
  ·exact hb q
def z9(k:I1)(h:O1)(l:H1)(xs:M4 K0):Prop:=match k with|I0=>Ky l xs|R0=>Nz h l xs
def itT:I1->V6|I0=>"list_iterator"|R0=>"tuple_iterator"
def DC(k:I1)(l:H1):D4:={O2:=.U0 (itT k),M3:=.T5 #[.J0 l,.j0 0 0]}
theorem z9.at{k:I1}{h h':O1}{l:H1}{xs:M4 K0}(x:z9 k h l xs)(hk:∀o,C3 l=E0 o->D3 l=E0 o):z9 k h' l xs:=by
 cases k using o7
 ·obtain⟨o,e,r⟩:=x;exact⟨o,hk o e,r⟩
 ·obtain⟨o,e,r⟩:=x;exact⟨o,hk o e,r⟩
theorem z9.y6{k:I1}{h:O1}{l:H1}{xs:M4 K0}(x:z9 k h l xs)(o:D4):z9 k (rN o) l xs:=x.at λ _ e=>vA _ _ _ _ e
section
variable{prog:Program}{w:World}{E:Value->Shared->Prop}
theorem gT{k:I1}{l:H1}{xs:M4 K0}{Q:K0->D1->Prop}(hl:z9 k W0 l xs)(hQ:Q (.J0 P2) {s with B3:=G8 (DC k l)}):V0 (U4 L3 w) A (L_ (.J0 l)) Q E s:=by
 cases k using o7
 ·exact iter_tuple hl hQ
 ·exact wpAny_pyIter_list hl hQ
noncomputable abbrev qj(h:O1)(k1:I1)(l1:H1):O1:=rN (DC k1 l1)
noncomputable abbrev rj(h:O1)(k1 k2:I1)(l1 l2:H1):O1:=(qj h k1 l1).y6 (DC k2 l2)
noncomputable abbrev sj(h:O1)(k1 k2:I1)(l1 l2:H1):O1:=(rj h k1 k2 l1 l2).y6 {O2:=.U0 "tuple",M3:=.W5 #[.J0 o8,.J0 (qj h k1 l1).SC.L9]}
noncomputable abbrev vj(h:O1)(k1 k2:I1)(l1 l2:H1):O1:=(sj h k1 k2 l1 l2).y6 {O2:=.U0 "tuple",M3:=.W5 #[.H0,.H0]}
noncomputable abbrev vY(h:O1)(k1 k2:I1)(l1 l2:H1):O1:=(vj h k1 k2 l1 l2).y6 {O2:=.U0 "zip",M3:=.T5 #[.H0,.O3 R0,.O3 R0,.J0 (rj h k1 k2 l1 l2).SC.L9,.J0 (sj h k1 k2 l1 l2).SC.L9]}
theorem NM0(k1 k2:I1)(l1 l2:H1)(xs ys:M4 K0):
  T_ (MA.«zip.__new__» ⟨[.U0 "zip",.J0 l1,.J0 l2],[]⟩) (λ _ R s=>z9 k1 W0 l1 xs/\z9 k2 W0 l2 ys/\
   R (.ok (.U1 (.J0 (vj W0 k1 k2 l1 l2).SC.L9))) {s with B3:=vY W0 k1 k2 l1 l2}):=
 .Bn λ L3 w A R s h=>by
  obtain⟨hp,g,d,tk,os⟩:=s;rcases h with⟨yU,SM,h⟩;have hsub:=sub_zip;have hL1:z9 k1 (D1.B3 ⟨hp,g,d,tk,os⟩) l1 xs:=yU;have hL2:z9 k2 (D1.B3 ⟨hp.y6 (DC k1 l1),g,d,tk,os⟩) l2 ys:=SM.y6 _
  wp_walk using gT hL1,gT hL2
  exact⟨_,O,h⟩
theorem O50{k1 k2:I1}{l1 l2:H1}{xs ys:M4 K0}{Q:K0->D1->Prop}(yU:z9 k1 W0 l1 xs)(SM:z9 k2 W0 l2 ys)
  (h:∀h',zF h' (P2+4) (P2+2) (P2+3) .H0->jC h' (P2+2) (.J0 P2) (.J0 (P2+1))->
   jC h' (P2+3) .H0 .H0->D3 P2=E0 (DC k1 l1)->D3 (P2+1)=E0 (DC k2 l2)->
   (∀c o,F3 c=E0 o->D3 c=E0 o)->Q (.J0 (P2+4)) {s with B3:=h'}):
  V0 (U4 L3 w) A (K2 (.U0 "zip") [.J0 l1,.J0 l2]) Q E s:=by
 refine tU0 F.called_zip (by decide) (F.typeCall_zip_2 _ _) (F.newCall_zip_2 _ _) (λ QF=>F.args_object_init_3 QF _ _) F.entry_zip_new
  (NM0 k1 k2 l1 l2 xs ys) ⟨yU,SM,?_⟩
 have z1:(qj W0 k1 l1).SC.L9=P2+1:=bD ..;have z2:(rj W0 k1 k2 l1 l2).SC.L9=P2+2:=by rw[bD,z1]
 have z3:(sj W0 k1 k2 l1 l2).SC.L9=P2+3:=by rw[bD,z2]
 have z4:(vj W0 k1 k2 l1 l2).SC.L9=P2+4:=by rw[bD,z3]
 have g5:(vY W0 k1 k2 l1 l2).X5 (vj W0 k1 k2 l1 l2).SC.L9=E0 _:=DA _ O;have g4:(vY W0 k1 k2 l1 l2).X5 (sj W0 k1 k2 l1 l2).SC.L9=E0 _:=T6 _ (DA _ O);have g3:(vY W0 k1 k2 l1 l2).X5 (rj W0 k1 k2 l1 l2).SC.L9=E0 _:=T6 _ (T6 _ (DA _ O));have g2:(vY W0 k1 k2 l1 l2).X5 (qj W0 k1 l1).SC.L9=E0 (DC k2 l2):=T6 _ (T6 _ (T6 _ (DA _ O)));have g1:(vY W0 k1 k2 l1 l2).X5 P2=E0 (DC k1 l1):=T6 _ (T6 _ (T6 _ (T6 _ (DA _ O))));show _/\_;rw[z2,z3,z4]at g5;rw[z1,z2]at g3;rw[z3]at g4;rw[z1]at g2;rw[z4];exact⟨⟨_,g5,O⟩,h _ g5 g3 g4 g1 g2 λ c o x=>
  T6 _ (T6 _ (T6 _ (T6 _ (T6 _ x))))⟩
theorem OM0{M:YB}{A:C6}{β:Type}{f:P0 (Code×T3)->β}{Q:β->D1->Prop}{E:K0->D1->Prop}{s:D1}(h:∀b,Q b s):V0 M A stack (λ st s'=>V0 M A (L4 (f st)) Q E s') E s:=wpAny_stack_any λ _=>E2 (h _)
set_option tactic.hygienic true in
theorem PM0(k:I1)(l:H1)(xs:M4 K0):
  T_ (MA.«enumerate.__new__» ⟨[.U0 "enumerate",.J0 l],[]⟩) (λ _ R s=>z9 k W0 l xs/\
   R (.ok (.U1 (.J0 (G8 (DC k l)).SC.L9)))
    {s with B3:=(G8 (DC k l)).y6 {O2:=.U0 "enumerate",M3:=.T5 #[.H0,.O3 R0,.J0 P2,j5 0,.H0,.H0]}}):=
 .Bn λ L3 w A R s h=>by
  obtain⟨hp,g,d,tk,os⟩:=s;obtain⟨hl,h⟩:=h;have hsub:=sub_enumerate;have hL:z9 k (D1.B3 ⟨hp,g,d,tk,os⟩) l xs:=hl
  wp_walk using gT hL
  refine OM0 λ b=>?_;cases b
  ·wp_walk using gT hL
   exact⟨_,O,h⟩
  ·wp_walk using gT hL
   exact⟨_,O,h⟩
theorem P50{k:I1}{l:H1}{xs:M4 K0}{Q:K0->D1->Prop}(hl:z9 k W0 l xs)
  (h:∀h',gP h' (P2+1) P2 0 .H0->D3 P2=E0 (DC k l)->
   (∀b o,F3 b=E0 o->D3 b=E0 o)->Q (.J0 (P2+1)) {s with B3:=h'}):
  V0 (U4 L3 w) A (K2 (.U0 "enumerate") [.J0 l]) Q E s:=by
 refine tU0 F.called_enumerate (by decide) (F.typeCall_enumerate_1 _) (F.newCall_enumerate_1 _) (λ QF=>F.IT0 QF _) F.entry_enumerate_new
  (PM0 k l xs) ⟨hl,?_⟩
 have hz:(G8 (DC k l)).SC.L9=P2+1:=bD ..;show _/\_;rw[hz];have he:gP ((G8 (DC k l)).y6 {O2:=.U0 "enumerate",M3:=.T5 #[.H0,.O3 R0,.J0 P2,j5 0,.H0,.H0]}) (P2+1) P2 0 .H0:=by
  have:=DA (G8 (DC k l)) (o:={O2:=.U0 "enumerate",M3:=.T5 #[.H0,.O3 R0,.J0 P2,j5 0,.H0,.H0]}) O;rw[hz]at J2;exact J2
 exact⟨⟨_,he,O⟩,h _ he (T6 _ (DA _ O)) λ b o x=>T6 _ (T6 _ x)⟩
end
end
end
section
section
open PyProof.Rows
variable{B:Bs}{A:Around}{G G':Gh}{s s':Shared}{F:Addr->Prop}{FZ:Nat->Bool}
theorem QM0{L:z5}{nm x:u0}(h:x9 L nm x=I0):x=nm/\E7 L x=I0:=by
 unfold x9 at h;rw[N5,MU]at h;exact h
section
variable{g:Nat->Option PV}{cl:Nat->Nat}{n:Nat}{ih:C5}{T:Tab}{cenv:Env}{L:Kinds}{env:PV}{k:Nat}
theorem Od(BF:S7 B g)(X:G5 B n A N0 L O0 G s){x:u0}{v:K0}(TA:VF x=H0/\UJ x=E0 v)(hg:E7 L x=I0)(hd:(x==("__debug__":u0))=R0){p:T3}{Q E:K0->D1->Prop}(h:Q v s):
  V0 R2 A (Q5 (.u3 x p) N0) Q E s:=by
 exact jV BF MI ZB TA hg hd h
theorem GN{M:YB}{T:V6}:VT M s (.U0 T):=λ A Q E h=>E2 (h _ (.L2 (.S2 O)))
theorem vV(BF:S7 B g)(H:z7 B g cl n ih)(X:G5 B n A N0 L O0 G s){x:u0}{v:K0}(TA:VF x=H0/\UJ x=E0 v)(hg:E7 L x=I0)(hd:(x==("__debug__":u0))=R0)(hv:∀s,VT R2 s v)
  {a:C1}(ha:Q8 a=I0){p q:T3}{γ:Type}{f:PV->M γ}{P:γ->K1->Prop}{Q:C0->K1->Prop}(M0:(F1 (R5 (cE g cl k L a) O0) f R1).P1 P Q){K:K0->D1->Prop}
  (hK:∀G1 s1 y u,A3 B N2 G s G1 s1->J1 B A G1 s1->H3 G1 pE y u->(f y qF).P1 P Q->V0 R2 A (X7 v [u]) K (Px B N2 A G s Q) s1):
  V0 R2 A (Q5 (.C7 (.u3 x p) [a] [] q) N0) K (Px B N2 A G s Q) s:=by
 refine mM (Od BF X TA hg hd ?_);have E4:[a].dA Q8=I0:=by simp[ha]
 refine AJ (by rw[IL E4];rfl) (BJ E4 ?_);rw[zI ha];refine zD ((H X).s8 M0 λ G1 s1 y u C2 g1 ru B5=>?_);exact JJ ⟨hv _,hK G1 s1 y u C2 g1 ru B5⟩
theorem Q50(BF:S7 B g)(H:z7 B g cl n ih)(X:G5 B n A N0 L O0 G s){x:u0}{v:K0}(TA:VF x=H0/\UJ x=E0 v)(hg:E7 L x=I0)(hd:(x==("__debug__":u0))=R0)(hv:∀s,VT R2 s v)
  {a b:C1}(ha:Q8 a=I0)(hb:Q8 b=I0){p q:T3}{γ:Type}{f:PV->PV->M γ}{P:γ->K1->Prop}{Q:C0->K1->Prop}(M0:(F1 (R5 (cE g cl k L a) O0) (λ y=>F1 (R5 (cE g cl k L b) O0) (f y)) R1).P1 P Q){K:K0->D1->Prop}
  (hK:∀G1 s1 y u y2 u2,A3 B N2 G s G1 s1->J1 B A G1 s1->H3 G1 pE y u->H3 G1 pE y2 u2->(f y y2 qF).P1 P Q->V0 R2 A (X7 v [u,u2]) K (Px B N2 A G s Q) s1):
  V0 R2 A (Q5 (.C7 (.u3 x p) [a,b] [] q) N0) K (Px B N2 A G s Q) s:=by
 refine mM (Od BF X TA hg hd ?_);have E4:[a,b].dA Q8=I0:=by simp[ha,hb]
 refine AJ (by rw[IL E4];rfl) (BJ E4 ?_);rw[zI ha,zI hb];refine zD ((H X).s8 M0 λ G1 s1 y u C2 g1 ru B5=>?_);refine zD ((H (KC C2 g1)).NE C2 B5 λ G2 s2 y2 u2 I2 c9 g2 uV xA=>?_);exact JJ ⟨hv _,hK G2 s2 y u y2 u2 I2 g2 (SK c9) uV xA⟩
theorem wj(gd:J1 B A G s){y:PV}{v:K0}(r:H3 G W0 y v){γ:Type}{f:It->M γ}{P:γ->K1->Prop}{X:C0->K1->Prop}(M0:(F1 (fJ y) f R1).P1 P X):
  ∃l xs k a,v=.J0 l/\z9 k W0 l xs/\(f a R1).P1 P X/\(∀av h' I,LL G W0 av h'->D3 I=E0 (DC k l)->vC (NO av) h' a I)/\((∃q,a=.W5 q)\/∃i,a=.DG i 0):=by
 cases y using Q3 with
 |Q0 l=>
  obtain⟨a,vs,n,O,hz,e,rl⟩:=r;refine⟨a,OB,R0,.W5 l,O,⟨_,e,O,_,O⟩,M0,λ av h' I hk hI=>?_,.S2 ⟨_,O⟩⟩;obtain⟨h1,h2⟩:=hk _ _ _ hz e;exact⟨a,0,vs,n,⟨_,hI,O,O⟩,h2,h1,L50 hk rl⟩
 |J0 i=>
  obtain⟨hi,O⟩:=r;have M0:(F1 (λ s=>((match M8 i with|.M1 _=>W1 (tW i 0)|_=>F2 61):M It) s) f R1).P1 P X:=M0;have M0:(F1 ((match P3 i with|.M1 _=>W1 (tW i 0)|_=>F2 61):M It) f R1).P1 P X:=M0;generalize ex:P3 i=zo at M0;cases zo using FA with
  |M1 l=>
   obtain⟨vs,n,e,rl⟩:=BN gd hi ex;exact⟨Y2 i,OB,I0,.DG i 0,O,R9 e,M0,λ av h' I hk hI=>⟨hi,_,hI,O,O⟩,.L2 ⟨_,O⟩⟩
  |_=>exact C4
 |_=>exact C4
def RM0(B:Bs)(A:C6)(G:Gh)(s:D1){γ:Type}(f:It->M γ)(P:γ->K1->Prop)(X:C0->K1->Prop)(K:K0->D1->Prop):Prop:=
 ∀G1 s1 l h' tk a v W,A3 B N2 G s G1 s1->J1 B A G1 s1->(∀b o,IJ b=E0 o->D3 b=E0 o)->(∀b∈W,IJ b=H0)->(∀b∈l,b∈W)->
  J1 B A (sN (l++mD)) {s1 with B3:=h',B4:=tk}->AH (sN (l++mD)) h' a v W->(∀b∈W,x8 B (sN (l++mD)) h' b)->(f a qF).P1 P X->K v {s1 with B3:=h',B4:=tk}
theorem Pd{l:P0 H1}{h':O1}(k:∀b o,F3 b=E0 o->D3 b=E0 o)(hl:∀b∈l,F3 b=H0):LL G W0 (l++F5) h':=λ b vs n hb e=>⟨λ q=>by
  rcases Kj q with q|q
  ·rw[hl b q]at e;contradiction
  ·exact hb q,k _ _ e⟩
theorem Kv{e:C1}{W9:o6}{γ:Type}{f:It->M γ}{P:γ->K1->Prop}{X:C0->K1->Prop}{σ:K1}{f':C1->C}(M0:(F1 (KQ ih O0 (cI f' L e)) f σ).P1 P X):∀x,foldedSetIterable e W9 x=L4 x:=by
 intro x;cases e using j9<;>first|rfl|exact C4
theorem Qd{a:C1}(h:yB [a]=I0):Q8 a=I0:=by simpa using(mY h).2
theorem xj{a b:C1}(h:yB [a,b]=I0):Q8 a=I0/\Q8 b=I0:=by simpa using(mY h).2
theorem wV{x:H1}{P:H1->Prop}(h:P x):∀b∈[x],P b:=λ b hb=>by rw[vT hb];exact h
theorem Jn{h:O1}{b:H1}{l:P0 H1}(x:x8 B G h b):x8 B (NO l) h b:=⟨Ca,x.mA,DQ,x.l9⟩
theorem xV{h:O1}{b:H1}(hb:o8<=b):C3 b=H0:=TE hb
theorem R50(BF:S7 B g)(H:z7 B g cl n ih)(X:G5 B n A N0 L O0 G s){e:C1}{γ:Type}{f:It->M γ}{P:γ->K1->Prop}{Q:C0->K1->Prop}(M0:(F1 (KQ ih O0 (cI (cE g cl k L) L e)) f R1).P1 P Q)
  {K:K0->D1->Prop}(hK:RM0 B A G s f P Q K):V0 R2 A (Q5 e N0) (λ x s1=>V0 R2 A (L_ x) K (Px B N2 A G s Q) s1) (Px B N2 A G s Q) s:=by
 have sh:=G20 (cE g cl k L) L e;generalize cI (cE g cl k L) L e=c at sh M0;cases sh with
 |v8 a b p q hg hf=>
  have M0:(F1 (R5 (cE g cl k L a) O0) (λ y=>F1 (R5 (cE g cl k L b) O0) λ y2=>F1 (fJ y) λ x=>F1 (fJ y2) λ z=>f (.v8 x z)) R1).P1 P Q:=
   IK (DB M0) λ _ _ h=>IK (DB h) λ _ _ h=>IK (DB h) λ _ _ h=>DB h
  refine Q50 BF H X (CO "zip" (.U0 "zip") (OL (i:=7) O)) hg (by decide) (λ _=>GN) (xj hf).1 (xj hf).2 M0 λ G1 s1 y u y2 u2 C2 g1 ru uV B5=>?_;obtain⟨l1,xs,k1,a1,O,nH,xA,pg,Mv⟩:=wj g1 ru B5;obtain⟨l2,ys,k2,a2,O,lX,Nv,mk2,sh2⟩:=wj g1 uV xA;refine O50 nH lX λ h' hz wB rA TM mX hk=>?_;refine aT0 hz ?_;have av:=Pd (G:=G1) (l:=[E9+3]) hk (wV (xV (QG _ 3)));have lD:∀b∈[E9+4,E9+3,E9,E9+1],E9<=b/\∃o,D3 b=E0 o:=λ b hb=>by
   simp only[uD,vD,eE]at hb;rcases hb with O|O|O|O
   ·exact⟨QG _ _,_,hz⟩
   ·exact⟨QG _ _,_,rA⟩
   ·exact⟨B8 _,_,TM⟩
   ·exact⟨QG _ _,_,mX⟩
  refine hK G1 s1 [E9+3] h' oA (.v8 a1 a2) _ [E9+4,E9+3,E9,E9+1] C2 g1 hk (λ b hb=>xV (lD b hb).1) (λ b hb=>by simp at hb;simp[hb]) (Xy hk λ b hb=>lD b (by simp at hb;simp[hb]))
   ⟨_,E9+2,_,_,_,_,_,O,O,?_,?_,?_,hz,wB,rA,pg _ h' _ av TM,mk2 _ h' _ av mX⟩ (λ b hb=>Jn (LX (G:=G1) g1 (lD b hb).1 (lD b hb).2)) Nv
  ·show E9+3∈[E9+3]++mD;simp
  ·intro q;rcases Kj q with q|q
   ·have:E9+2=E9+3:=by simpa using q
    exact(EU0 _ (OB0 ‹_›))
   ·obtain⟨_,o,eo⟩:=r00 _ q;rw[xV (QG _ 2)]at eo;contradiction
  ·exact ZC (TD _)
 |OE a p q hg hf=>
  have M0:(F1 (R5 (cE g cl k L a) O0) (λ y=>F1 (fJ y) λ x=>f (.OE 0 x)) R1).P1 P Q:=IK (DB M0) λ _ _ h=>DB h;refine vV BF H X (CO "enumerate" (.U0 "enumerate") (OL (i:=8) O)) hg (by decide) (λ _=>GN) (Qd hf) M0 λ G1 s1 y u C2 g1 ru B5=>?_;obtain⟨l1,xs,k1,a1,O,nH,xA,pg,Mv⟩:=wj g1 ru B5;refine P50 nH λ h' he TM hk=>?_;have hT:({s1 with B3:=h'}:D1).XV (.J0 (E9+1)) "enumerate":=⟨_,he,O⟩;have av:=Pd (G:=G1) (l:=[]) hk (λ b hb=>by contradiction);have lD:∀b∈[E9+1,E9],E9<=b/\∃o,D3 b=E0 o:=λ b hb=>by
   simp only[uD,vD,eE]at hb;rcases hb with O|O
   ·exact⟨QG _ _,_,he⟩
   ·exact⟨B8 _,_,TM⟩
  refine At hT la (TC la hT V80 ?_ (U80 _));show V0 _ _ (U1 (.J0 (E9+1))) _ _ _;refine E2 ⟨_,O,"enumerate",_,hT,M80,?_⟩;exact hK G1 s1 [] h' oA (.OE 0 a1) _ [E9+1,E9] C2 g1 hk (λ b hb=>xV (lD b hb).1) (λ b hb=>by contradiction) (Xy hk λ b hb=>by contradiction)
   ⟨_,_,_,O,O,he,pg _ h' _ av TM⟩ (λ b hb=>Jn (LX (G:=G1) g1 (lD b hb).1 (lD b hb).2)) xA
 |qm a p q hg hf=>
  have M0:(F1 (R5 (cE g cl k L a) O0) (λ v=>F1 ((match v with|.j0 (.O4 n)=>bif T9 n 60 then W1 (.jG 0 n)else F2 65|_=>F2 65):M It) f) R1).P1 P Q:=DB M0;refine vV BF H X (CO "range" (.U0 "range") (OL (i:=9) O)) hg (by decide) (λ _=>GN) (Qd hf) M0 λ G1 s1 y u C2 g1 ru B5=>?_;cases y using Q3 with
  |j0 i=>
   cases i using ZL with
   |O4 m=>
    change(F1 (bif T9 m 60 then W1 (gU 0 m)else F2 65) f qF).P1 P Q at B5;cases hm:T9 m 60 with
    |R0=>rw[hm]at B5;exact cP
    |I0=>
     rw[hm]at B5;have hm:=u6 hm;obtain⟨t,O⟩:=ru;refine P90 ?_;refine JT0 (q90 ..) (AA0 (by decide) (by decide) (by have:(0:B2)<=GA m:=PL m;exact PL _) (by have:(GA m:B2)<=60:=I90 hm;omega)) ?_;have Z7:x80 0 (GA m) 1=(m:B2):=by
      rw[K90]
      split
      ·simp
      ·rename_i q;have:(GA m:B2)=m:=O;exact ω30 ‹_›
     rw[Z7];have hk:∀b o,IJ b=E0 o->((XL {O2:=.U0 "range",M3:=.T5 #[.j0 0 oA,.j0 (GA m) t,.j0 1 (oA+1)]}).y6 {O2:=.U0 "range_iterator",M3:=.T5 #[j5 0,j5 (m:B2),j5 1]}).X5 b=E0 o:=λ b o e=>vA _ _ _ _ (vA _ _ _ _ e);have D7:ml ((XL {O2:=.U0 "range",M3:=.T5 #[.j0 0 oA,.j0 (GA m) t,.j0 1 (oA+1)]}).y6 {O2:=.U0 "range_iterator",M3:=.T5 #[j5 0,j5 (m:B2),j5 1]}) (E9+1) ((0:C0):B2) ((m:B2)-((0:C0):B2)) 1:=by
      have:=DA (XL {O2:=.U0 "range",M3:=.T5 #[.j0 0 oA,.j0 (GA m) t,.j0 1 (oA+1)]}) (o:={O2:=.U0 "range_iterator",M3:=.T5 #[j5 0,j5 (m:B2),j5 1]}) O;rw[bD]at J2;simpa using J2
     have sz:(XL {O2:=.U0 "range",M3:=.T5 #[.j0 0 oA,.j0 (GA m) t,.j0 1 (oA+1)]}).SC.L9=E9+1:=bD ..;have:=hK G1 s1 [] _ (oA+1+1) (.jG 0 m) (.J0 (E9+1)) [E9+1] C2 g1 hk (wV (xV (QG _ _))) (λ b hb=>by contradiction) (Xy hk λ b hb=>by contradiction)
      ⟨_,O,O,D7⟩ (wV (Jn (LX (G:=G1) g1 (QG _ _) ⟨_,D7⟩))) B5
     rw[<-sz]at J2;exact J2
   |_=>exact cP
  |_=>exact cP
 |W5=>
  have M0:(F1 (R5 (cE g cl k L e) O0) (λ y=>F1 (fJ y) f) R1).P1 P Q:=DB M0;refine(H X).s8 M0 λ G1 s1 y u C2 g1 ru B5=>?_;obtain⟨l1,xs,k1,a1,O,nH,xA,pg,Mv⟩:=wj g1 ru B5;refine gT nH ?_;have hk:∀b o,IJ b=E0 o->(XL (DC k1 l1)).X5 b=E0 o:=λ b o e=>vA _ _ _ _ e;have TM:(XL (DC k1 l1)).X5 E9=E0 (DC k1 l1):=DA _ O;have av:=Pd (G:=G1) (l:=[]) hk (λ b hb=>by contradiction);refine hK G1 s1 [] _ oA a1 _ [E9] C2 g1 hk (wV (xV (B8 _))) (λ b hb=>by contradiction) (Xy hk λ b hb=>by contradiction) ?_
   (wV (Jn (LX (G:=G1) g1 (B8 _) ⟨_,TM⟩))) xA
  have sm:=pg _ _ _ av TM;rcases Mv with⟨q,O⟩|⟨i,O⟩
  ·exact⟨_,O,O,sm⟩
  ·exact⟨_,O,O,sm⟩
 |M2=>
  exact C4
end
end
end
section
section
open PyProof.Rows
variable{B:Bs}{A:Around}{G G':Gh}{s s':Shared}{F:Addr->Prop}{FZ:Nat->Bool}
section
variable{prog:Program}{w:World}{E:Value->Shared->Prop}
theorem SM0{it S4:H1}{H5:M4 K0}:∀(n k:C0)(s:D1)(Q:P0 K0->D1->Prop),B7 W0 it S4 k H5->k+n<=SR->
  (∀h',B7 h' it S4 (k+n) H5->WA it W0 h'->Q ((ij k).VJ n) {s with B3:=h'})->V0 (U4 L3 w) A (YG (.J0 it) n) Q E s:=by
 intro zq;induction zq with
 |K9=>
  intro k s Q D7 _ hQ;show V0 _ _ (L4 []) Q E s;exact E2 (by simpa using hQ W0 D7 (WA.M5 ..))
 |J9 n ih=>
  intro k s Q D7 lH hQ;have ZF:k<SR:=by exact ω105 ‹_›
  show V0 _ _ (vF (.J0 it)>>=_) Q E s;refine S0 (Fv D7 (x:=H5[k]) (by simp[ZF]) λ n5 YT BE=>?_);refine S0 (A8 (ih (k+1) _ _ YT (by exact ω47 ‹_›) λ u7 TM0 mB=>E2 ?_));have hd:ij k=H5[k]::ij (k+1):=by simp[P0.drop_eq_getElem_cons,ZF]
  have:=hQ u7 (by rw[show k+(n+1)=k+1+n by exact(SZ _ _).Z3];exact TM0) (BE.U2 mB);rw[hd,oT0]at J2;exact J2
theorem z9.lt{b:I1}{h:O1}{l:H1}{xs:M4 K0}(x:z9 b h l xs):l<o8:=by
 cases b using o7
 ·obtain⟨o,e,_⟩:=x;exact r9 e
 ·obtain⟨o,e,_⟩:=x;exact r9 e
theorem z9.S4{b:I1}{h:O1}{l I:H1}{xs:M4 K0}(x:z9 b h l xs)(hI:C3 I=E0 (DC b l))(Z6:l≠I):B7 h I l 0 xs:=by
 cases b using o7
 ·exact⟨.L2 ⟨⟨_,hI,O,O⟩,x⟩,Z6⟩
 ·exact⟨.S2 ⟨⟨_,hI,O,O⟩,x⟩,Z6⟩
theorem S50{b:I1}{l:H1}{xs:M4 K0}{Q:P0 K0->D1->Prop}(hh:F9=H0)(hv:z9 b W0 l xs)
  (h:∀h',(∀b o,F3 b=E0 o->D3 b=E0 o)->Q SP {s with B3:=h'}):V0 (U4 L3 w) A (Z90 (.J0 l) VK H0) Q E s:=by
 have ZF:l≠P2:=ZC hv.lt;refine S0 ?_;have it1:V0 (U4 L3 w) A (bT0 (.J0 l)) (λ r s'=>r=R0/\s'=s) E s:=by
  unfold bT0;cases b using o7
  ·exact S0 (Kk (Nz.AD hv) slot_tuple_iter.e9 (E2 ⟨O,O⟩))
  ·have hv:W0.Am l xs:=hv;exact S0 (Kk hv.AD slot_list_iter.e9 (E2 ⟨O,O⟩))
 refine V3 it1 (λ r s' hr=>?_) λ _ _ e=>e;obtain⟨O,O⟩:=hr;refine S0 (A8 (gT hv ?_));have hI:(s'.Wp (DC b l)).X5 s'.Ch=E0 (DC b l):=DA _ O;refine S0 (A8 (SM0 VK 0 _ _ ((hv.y6 _).S4 hI ZF) (by exact MP (ZW _)) λ n5 YT BE=>?_));have M0:P0.VJ VK (P0.TF 0 SP)=SP:=by
  rw[a90];exact P0.take_of_length_le (by simp)
 rw[M0];rw[w3 (by simp)];refine S0 (A8 (Gv hh YT (by simp) λ u7 wJ _=>?_));refine SI PG ?_;exact E2 (h u7 λ b o e=>wJ b o (ZC (r9 e)) (xC b o (ZC (r9 e)) (vA _ _ _ _ e)))
theorem UM0{b:I1}{l:H1}{xs:M4 K0}{Vm:P0 (I1×(K0->Y7 T7))}{Q:T7->D1->Prop}(hh:F9=H0)(hv:z9 b W0 l xs)(hn:Vm.M7=VK)(hstar:Vm.fS0 (·.1)=H0)
  (h:∀h',(∀b o,F3 b=E0 o->D3 b=E0 o)->V0 (U4 L3 w) A (Sc (Vm.Y4 (·.2)) SP) Q E {s with B3:=h'}):
  V0 (U4 L3 w) A (unpack (.J0 l) Vm) Q E s:=by
 unfold unpack;rw[hn,hstar];exact S0 (A8 (S50 hh hv h))
theorem Ov{ZI:C1}{it:K0}{P4:P0 P5}{O0:o6}{R:BM->D1->Prop}
  (Jg:V0 (U4 L3 w) A (vF it) (λ r N6=>match r with
   |H0=>R (.ok .W4) N6
   |E0 v=>V0 (U4 L3 w) A (cb ZI it v) (λ _ Qf=>
     V0 (U4 L3 w) A (GK ZI O0 v) (λ _ s9=>V0 (U4 L3 w) A (mC P4 O0) (λ f MD=>match f with
      |.W4|.bB=>JC (U4 L3 w) A (.fe ZI it P4 [] O0) R MD
      |.cB=>R (.ok .W4) MD
      |.U1 v=>R (.ok (.U1 v)) MD) (xL (U4 L3 w) A O0 λ e s'=>R (.LD e) s') s9) (xL (U4 L3 w) A O0 λ e s'=>R (.LD e) s') Qf) (xL (U4 L3 w) A O0 λ e s'=>R (.LD e) s') N6) (xL (U4 L3 w) A O0 λ e s'=>R (.LD e) s') s):
  JC (U4 L3 w) A (.fe ZI it P4 [] O0) R s:=by
 refine bZ ?_;show V0 _ A ((forTurn ZI it P4 [] O0).fA0 (λ x=>do Em x O0;A90 x)) _ _ s;refine b90 ?_;refine S0 (BB (S0 (iZ (V3 Jg (λ r N6 n5=>?_) λ _ _ h'=>BB h'))));cases r using i9 with
 |H0=>exact E2 ⟨O,codeAny_block (KP n5)⟩
 |E0 v=>
  refine S0 (V3 n5 (λ _ Qf Yz=>?_) λ _ _ h'=>h');refine S0 (V3 Yz (λ _ s9 u7=>S0 (V3 u7 (λ f MD e8=>?_) λ _ _ h'=>h')) λ _ _ h'=>h');cases f using JH with
  |W4=>exact E2 ⟨O,e8⟩
  |bB=>exact E2 ⟨O,e8⟩
  |cB=>exact E2 e8
  |U1 v=>exact E2 e8
theorem FU0{OC:C1}{P4:P0 P5}{O0:o6}{R:BM->D1->Prop}
  (Jg:V0 (U4 L3 w) A (WH OC O0 (Q5 OC O0)) (λ b N6=>if b then V0 (U4 L3 w) A (mC P4 O0) (λ f MD=>match f with
      |.W4|.bB=>JC (U4 L3 w) A (.lx OC P4 [] O0) R MD
      |.cB=>R (.ok .W4) MD
      |.U1 v=>R (.ok (.U1 v)) MD) (xL (U4 L3 w) A O0 λ e s'=>R (.LD e) s') N6 else R (.ok .W4) N6) (xL (U4 L3 w) A O0 λ e s'=>R (.LD e) s') s):
  JC (U4 L3 w) A (.lx OC P4 [] O0) R s:=by
 refine bZ ?_;show V0 _ A ((whileTurn OC P4 [] O0).fA0 (λ x=>do Em x O0;A90 x)) _ _ s;refine b90 ?_;refine S0 (V3 Jg (λ b N6 n5=>?_) λ _ _ h'=>h');cases b using o7 with
 |I0=>
  refine S0 (V3 n5 (λ f MD e8=>?_) λ _ _ h'=>h');cases f using JH with
  |W4=>exact E2 ⟨O,e8⟩
  |bB=>exact E2 ⟨O,e8⟩
  |cB=>exact E2 e8
  |U1 v=>exact E2 e8
 |R0=>exact S0 (KP (E2 n5))
theorem VM0{Y5 ZI lI:C1}{A7:P0 C1}{w8:cA}{D2:T3}{it N3:K0}{O0:o6}{R:BM->D1->Prop}
  (Jg:V0 (U4 L3 w) A (vF it) (λ r N6=>match r with
   |H0=>R (.ok .W4) N6
   |E0 v=>V0 (U4 L3 w) A (cb ZI it v) (λ _ Qf=>A7=[]/\V0 (U4 L3 w) A (GK ZI O0 v) (λ _ s9=>V0 (U4 L3 w) A (Q5 Y5 O0) (λ x MD=>
     V0 (U4 L3 w) A (K2 (.Z4 "list.append") [N3,x]) (λ _ s₄=>JC (U4 L3 w) A (.Nm (.QB Y5 [⟨ZI,lI,A7,0⟩] w8 D2) 0 it N3 O0) R s₄) (xL (U4 L3 w) A O0 λ e s'=>R (.LD e) s') MD)
     (xL (U4 L3 w) A O0 λ e s'=>R (.LD e) s') s9) (xL (U4 L3 w) A O0 λ e s'=>R (.LD e) s') Qf) (xL (U4 L3 w) A O0 λ e s'=>R (.LD e) s') N6) (xL (U4 L3 w) A O0 λ e s'=>R (.LD e) s') s):
  JC (U4 L3 w) A (.Nm (.QB Y5 [⟨ZI,lI,A7,0⟩] w8 D2) 0 it N3 O0) R s:=by
 refine bZ ?_;show V0 _ A ((cW0 (.QB Y5 [⟨ZI,lI,A7,0⟩] w8 D2) 0 it N3 O0).fA0 (λ x=>do Em x O0;A90 x)) _ _ s;refine b90 ?_;obtain⟨J4,hU,WM0⟩:∃J4:K0->Y7 jH,(cW0 (.QB Y5 [⟨ZI,lI,A7,0⟩] w8 D2) 0 it N3 O0=(UK lI.D2>>=λ _=>vF it>>=λ r=>match r with|H0=>L4 (.ND .W4)|E0 v=>cb ZI it v>>=λ _=>J4 v))/\(A7=[]->∀v,J4 v=(GK ZI O0 v>>=λ _=>(Q5 Y5 O0>>=λ x=>K2 (.Z4 "list.append") [N3,x]>>=λ _=>L4 ())>>=λ _=>eK (.Nm (.QB Y5 [⟨ZI,lI,A7,0⟩] w8 D2) 0 it N3 O0))):=
  ⟨_,O,λ e v=>by subst e;rfl⟩
 rw[hU];refine S0 (BB (S0 (V3 Jg (λ r N6 n5=>?_) λ _ _ h'=>h')));cases r using i9 with
 |H0=>exact E2 n5
 |E0 v=>
  refine S0 (V3 n5 (λ _ Qf zz=>EO zz λ he Yz=>?_) λ _ _ h'=>h');rw[WM0 he];exact S0 (V3 Yz (λ _ s9 u7=>S0 (S0 (V3 u7 (λ x MD e8=>S0 (V3 e8
   (λ _ s₄ IM=>E2 (E2 ⟨O,IM⟩)) λ _ _ h'=>h')) λ _ _ h'=>h'))) λ _ _ h'=>h')
end
end
end
section
section
open PyProof.Rows
variable{B:Bs}{A:Around}{G G':Gh}{s s':Shared}{F:Addr->Prop}{FZ:Nat->Bool}
variable{g:Nat->Option PV}{cl:Nat->Nat}{n:Nat}{ih:C5}{T:Tab}{cenv:Env}{L:Kinds}{env:PV}{k:Nat}
noncomputable abbrev CF(B:Bs)(N0:o6)(D:u0->Prop):Gh->O1->PV->T7->Prop:=λ G h e _=>V5 B N0 D e G h
theorem T50{D:u0->Prop}{f:C1->C}(ES:n9 N0 L)(gd:J1 B A G s)(ER:V5 B N0 D O0 G W0){x:u0}{D2:T3}{p:PV}{v:K0}(r:H3 G W0 p v):
  V4 B (CF B N0 (λ y=>D y/\y≠x)) (D5 N0 L) A (aC FZ T ih (cT L f (.u3 x D2)) p O0) (GK (.u3 x D2) N0 v) G s:=by
 intro P X M0;change(aC FZ T ih (bif A5 x&&z6 L x then .F0 (vc x)else .M2) p O0 R1).P1 P X at M0;cases h:A5 x&&z6 L x with
 |R0=>rw[h]at M0;exact C4
 |I0=>
  rw[h]at M0;simp only[N5]at h;have M0:P (A6 (vc x) p O0) R1:=M0;exact q80 (lV ES gd ER h.1 h.2 r (λ b q=>q) λ s' st g' er=> .at (R:=CF B N0 (λ y=>D y/\y≠x)) (a:=A6 (vc x) p O0) (b:=()) st g' er M0)
theorem XM0{ts:P0 C1}{j:C0}{D2:T3}:cF (.U9 ts j D2)=XA V7:=O
inductive iT(L:z5):P0 C1->PV->PV->PV->Prop
 |B0 O0:iT L [] .B0 O0 O0
 |A0 x D2 ts p q O0 e(h1:A5 x=I0)(h2:z6 L x=I0)(r:iT L ts q (A6 (vc x) p O0) e):iT L (.u3 x D2::ts) (.A0 p q) O0 e
section
variable{f:Expr->C}{c r:C}{l:PV}{σ:K1}{P:PV->K1->Prop}{X:Nat->K1->Prop}{ts:List Expr}{e:PV}
theorem YM0(h:(k_ (.A0 c r) l O0 σ).P1 P X):∃p q,l=.A0 p q:=by cases l using Q3<;>first|exact⟨_,_,O⟩|exact u4
theorem ZM0(h:(k_ .B0 l O0 σ).P1 P X):l=.B0:=by cases l using Q3<;>first|rfl|exact u4
theorem Qv:∀{ts:P0 C1}{l O0:PV},(k_ (R8 (IV L f) ts) l O0 σ).P1 P X->∃e,iT L ts l O0 e/\P e σ/\∀(P':PV->K1->Prop)(X':C0->K1->Prop),P' e σ->(k_ (R8 (IV L f) ts) l O0 σ).P1 P' X':=by
 intro ts;induction ts with
 |B0=>
  intro l O0 h;obtain O:=ZM0 h;exact⟨O0,.B0 _,h,λ _ _ h=>h⟩
 |A0 t ts ih=>
  intro l O0 M0;cases hs:Q8 t with
  |R0=>rw[Sj hs]at M0;exact C4
  |I0=>
   rw[Rj hs]at M0 ⊢;obtain⟨p,q,O⟩:=YM0 M0;have sh:=QC0 L f t;generalize IV L f t=c at sh M0;cases sh using Pb.n8 with
   |M2=>exact C4
   |F0 x D2 h1 h2=>
    obtain⟨e,a,hp,hr⟩:=ih (l:=q) (O0:=A6 (vc x) p O0) M0;exact⟨e,.A0 _ _ _ _ _ _ _ h1 h2 a,hp,hr⟩
theorem iT.Z5(a:iT L ts l O0 e):∀{G:Gh}{h:O1}{vs:P0 K0},A4 G h l vs->cN=R7/\ts.dA Q8=I0:=by
 induction a with
 |B0=>intro G h vs r;have r:vs=[]:=r;subst r;exact⟨O,O⟩
 |A0 x D2 ts p q O0 e h1 h2 _ ih=>
  intro G h vs ⟨v,rC,e,_,rq⟩;subst e;exact⟨H6 LH (ih rq).1,(ih rq).2⟩
theorem aM0(ES:n9 N0 L)(a:iT L ts l O0 e):∀{D:u0->Prop}{vs:P0 K0}{s:D1},J1 B A G s->V5 B N0 D O0 G W0->A4 G W0 l vs->
  V0 R2 A (Sc ((NU ts N0).Y4 (·.2)) vs) (λ _ s'=>A3 B (D5 N0 L) G s G s'/\J1 B A G s'/\V5 B N0 (λ y=>D y/\y∉XA V7) e G U6) (λ _ _=>J6) s:=by
 induction a with
 |B0=>
  intro D vs s gd ER r;have r:vs=[]:=r;subst r;exact E2 ⟨.M5 ..,gd,ER.Lu λ y h=>⟨h,vD⟩⟩
 |A0 x D2 ts p q O0 e h1 h2 a ih=>
  intro D vs s gd ER ⟨v,rC,ev,rp,rq⟩;subst ev;show V0 R2 A (UH rC (GK (.u3 x D2) N0 v)>>=λ _=>Sc ((NU ts N0).Y4 (·.2)) rC) _ _ s;refine S0 (A8 (q80 (lV ES gd ER h1 h2 rp (λ b q=>q) λ s' st g' er=>?_)));refine V3 (ih g' er (A4.K6 rq st)) (λ _ O7 zz=>Wn zz λ I2 g2 R6=>⟨gN I2,g2,R6.Lu λ y hy=>⟨hy.1.1,λ q=>?_⟩⟩) λ _ _ h=>h;exact(kA q).KB hy.1.2 hy.2
theorem Rv{ts:C}{p:PV}(h:(aC FZ T ih (.Q0 ts) p O0 σ).P1 P X):∃l,(p=.Q0 l\/∃i,p=.J0 i/\CA i=.M1 l)/\(k_ ts l O0 σ).P1 P X:=by
 cases p using Q3 with
 |Q0 l=>exact⟨l,.S2 O,h⟩
 |J0 i=>
  have h:(((match CA i with|.M1 l=>k_ ts l O0|_=>F2 74):M PV) σ).P1 P X:=h;cases ex:CA i<;>rw[ex]at h<;>first|exact⟨_,.L2 ⟨i,O,ex⟩,h⟩|exact u4
 |_=>exact u4
theorem U50{G:Gh}{s:D1}(gd:J1 B A G s){l p:PV}{v:K0}(r:H3 G W0 p v)(h:p=.Q0 l\/∃i,p=.J0 i/\P3 i=.M1 l):∃b a vs,v=.J0 a/\z9 b W0 a (P0.P8 vs)/\A4 G W0 l vs:=by
 rcases h with O|⟨i,O,ex⟩
 ·obtain⟨a,vs,n,O,hz,e,rl⟩:=r;exact⟨R0,a,vs,O,⟨_,e,O,_,O⟩,rl⟩
 ·obtain⟨hi,O⟩:=r;obtain⟨vs,n,e,rl⟩:=BN gd hi ex;exact⟨I0,_,vs,O,R9 e,rl⟩
end
theorem bM0{ts:P0 C1}(h:ts.dA Q8=I0):(NU ts N0).M7=cN/\(NU ts N0).fS0 (·.1)=H0:=by
 induction ts with
 |B0=>exact⟨O,O⟩
 |A0 t r ih=>
  simp only[Gc,N5]at h;have e:NU (t::r) N0=(R0,GK t N0)::NU r N0:=by
   have:=h.1;cases t using j9<;>first|rfl|contradiction
  obtain⟨h1,h2⟩:=ih h.2;rw[e];exact⟨H6 LH h1,by simp[P0.findIdx?_cons,h2]⟩
theorem Q90{D:u0->Prop}{f:C1->C}(hh:F9=H0)(ES:n9 N0 L)(gd:J1 B A G s)(ER:V5 B N0 D O0 G W0){ts:P0 C1}{j:C0}{D2:T3}{p:PV}{v:K0}(r:H3 G W0 p v):
  V4 B (CF B N0 (λ y=>D y/\y∉cF (.U9 ts j D2))) (D5 N0 L) A (aC FZ T ih (cT L f (.U9 ts j D2)) p O0) (GK (.U9 ts j D2) N0 v) G s:=by
 intro P X M0;symm;obtain⟨pl,hp,M0⟩:=Rv M0;obtain⟨b,l,vs,O,Sv,rl⟩:=U50 gd r hp;obtain⟨e,a,hP,_⟩:=Qv M0;obtain⟨h1,h2⟩:=a.Z5 rl;obtain⟨e1,e2⟩:=bM0 (N0:=N0) h2;ext;refine S0 (BB (UM0 hh Sv (by rw[e1,h1,nF]) e2 λ h' hk=>?_));obtain⟨g1,C2⟩:=rn (h':=h') (tk:=X4) hk;exact V3 (aM0 ES a g1 (ER.XZ C2) (UB0 C2)) (λ _ s2 zz=>Wn zz λ I2 g2 R6=>⟨G,e,(iC λ _ q=>Q6).U2 I2,g2,R6,hP⟩) λ _ _ h=>u4
theorem cM0(o i:C1)(D2:T3)(v:K0):∃ks:K0->K0->P0 K0,GK (.BD o i D2) N0 v=(do
    let ov <-UH [v] (Q5 o N0)
    let iv <-UH [v,ov] (Q5 i N0)
    UK D2
    UH [v,ov,iv] (kl ov iv v)
    Yy (ks ov iv) []):=⟨_,O⟩
theorem Tv(CT:aD B T)(ON:AF)(H:z7 B g cl n ih)(X:G5 B n A N0 L O0 G s){t:C1}{p:PV}{v:K0}(r:H3 G W0 p v):
  V4 B (CF B N0 D0) (D5 N0 L) A (aC FZ T ih (cT L (cE g cl k L) t) p O0) (GK t N0 v) G s:=by
 have md:∀{D':u0->Prop}{m:M PV}{t':Y7 T7},(∀y,D' y->D0 y)->V4 B (CF B N0 D') (D5 N0 L) A m t' G s->V4 B (CF B N0 D0) (D5 N0 L) A m t' G s:=λ hD h P X M0=>
  V3 (h P X M0) (λ _ _ Z2=>by obtain⟨G2,a,I2,g2,R6,hp⟩:=Z2;exact⟨G2,a,I2,g2,V5.Lu R6 hD,hp⟩) λ _ _ px=>px
 have nm:∀{b},N2 b->D5 N0 L b:=λ q=>Q6;cases t using j9 with
 |u3 x D2=>exact md (λ y hy=>hy.1) (T50 MI ZB VR r)
 |U9 ts j D2=>exact md (λ y hy=>hy.1) (Q90 xn MI ZB VR r)
 |CD o x D2=>
  intro P Q M0;change(aC FZ T ih (bif pD x then .Z1 (vc x) (cE g cl k L o)else .M2) p O0 R1).P1 P Q at M0;cases hx:pD x with
  |R0=>rw[hx]at M0;exact C4
  |I0=>
   rw[hx]at M0;have M0:(F1 (R5 (cE g cl k L o) O0) (λ ov=>F1 (ar FZ T ov (vc x) p) λ _=>W1 O0) R1).P1 P Q:=M0;show V0 R2 A (do let ov <-UH [v] (Q5 o N0);UK dW0;UH [v,ov] (VW ov x v);Yy [v,ov] []) _ _ s;have U7:V0 R2 A (do let ov <-UH [v] (Q5 o N0);UK dW0;UH [v,ov] (VW ov x v);Yy [v,ov] []) (Po B (CF B N0 D0) N2 A G s P) (Px B N2 A G s Q) s:=by
    refine S0 (A8 ((H X).s8 M0 λ G1 s1 ov u C2 g1 ru E4=>S0 (BB (S0 (A8 ?_)))));refine(fK0 (F:=N2) CT ON hx g1 ru (Fa C2)).NE C2 E4 λ G2 s2 _ _ I2 c9 g2 _ B5=>?_;exact YU0 (.at (R:=CF B N0 D0) (a:=O0) (b:=()) I2 g2 (iL I2) B5)
   exact V3 U7 (λ _ _ Z2=>by obtain⟨G2,a,I2,g2,R6,hp⟩:=Z2;exact⟨G2,a,sL λ _ q=>nm q,g2,R6,hp⟩) λ _ _ Z2=>by obtain⟨G2,i,I2,g2,xi,hp⟩:=Z2;exact⟨G2,i,sL λ _ q=>nm q,g2,xi,hp⟩
 |BD o i D2=>
  intro P Q M0;have rR:cT L (cE g cl k L) (.BD o i D2)=.w0 (cE g cl k L o) (cE g cl k L i)\/cT L (cE g cl k L) (.BD o i D2)=.M2:=by
   cases i using j9<;>first|exact .S2 O|exact .L2 O
  rcases rR with hc|hc
  ·rw[hc]at M0;have M0:(F1 (R5 (cE g cl k L o) O0) (λ ov=>F1 (R5 (cE g cl k L i) O0) λ iv=>F1 (rc FZ ov iv p) λ _=>W1 O0) R1).P1 P Q:=M0;obtain⟨ks,ek⟩:=cM0 (N0:=N0) o i D2 v;rw[ek];have U7:V0 R2 A (do
    let ov <-UH [v] (Q5 o N0)
    let iv <-UH [v,ov] (Q5 i N0)
    UK D2
    UH [v,ov,iv] (kl ov iv v)
    Yy (ks ov iv) []) (Po B (CF B N0 D0) N2 A G s P) (Px B N2 A G s Q) s:=by
    refine S0 (A8 ((H X).s8 M0 λ G1 s1 ov u C2 g1 ru E4=>S0 (A8 ?_)));refine(H (KC C2 g1)).NE C2 E4 λ G2 s2 iv w I2 c9 g2 oX B5=>S0 (BB (S0 (A8 ?_)));refine(uL0 (FZ:=FZ) g2 (SK c9) oX (Fa I2)).NE I2 B5 λ G3 s3 _ _ U5 rD g3 _ xA=>?_;exact YU0 (.at (R:=CF B N0 D0) (a:=O0) (b:=()) U5 g3 (iL U5) xA)
   exact V3 U7 (λ _ _ Z2=>by obtain⟨G2,a,I2,g2,R6,hp⟩:=Z2;exact⟨G2,a,sL λ _ q=>nm q,g2,R6,hp⟩) λ _ _ Z2=>by obtain⟨G2,i,I2,g2,xi,hp⟩:=Z2;exact⟨G2,i,sL λ _ q=>nm q,g2,xi,hp⟩
  ·rw[hc]at M0;exact C4
 |_=>exact λ P Q M0=>C4
end
end
section
open PyProof.Rows
variable{B:Bs}{A:Around}{G G':Gh}{s s':Shared}{F:Addr->Prop}{FZ:Nat->Bool}
variable{g:Nat->Option PV}{cl:Nat->Nat}{n:Nat}{ih:C5}{T:Tab}{cenv:Env}{L:Kinds}{env:PV}{k:Nat}
def DF(N0:o6)(L:z5)(W:P0 H1)(b:H1):Prop:=D5 N0 L b\/b∈W
structure AI(B:Bs)(G:Gh)(h:O1)(N0:o6)(W:P0 H1):Prop where
 Uv:∀b∈W,x8 B G h b
 F0:NA∉W
 cel:∀y c,mF y=E0 c->c∉W
theorem AI.Vv{h:O1}{W:P0 H1}(x:AI B G h N0 W):∀b∈W,¬D5 N0 L b:=λ b hb q=>by
 rcases q with O|⟨y,_,hy⟩
 ·exact x.F0 hb
 ·exact x.cel y b hy hb
theorem AI.K6{W:P0 H1}(x:AI B G W0 N0 W)(st:A3 B F G s G' s'):AI B G' U6 N0 W:=⟨λ b hb=>(x.Uv b hb).K6 st,x.F0,x.cel⟩
inductive jT(B:Bs)(F:H1->Prop)(A:C6)(G:Gh)(s:D1)(X:C0->K1->Prop)(e:K0)(s':D1):Prop
 |mk(G':Gh)(i:C0)(st:A3 B F G s G' s')(g:J1 B A G' s')(x:vG G' i e)(t:zM G' U6 i)(p:X i wF)
theorem jT.I8{X:C0->K1->Prop}{e:K0}{O7:D1}(st:A3 B F G s G' s')(h:jT B F A G' s' X e O7):jT B F A G s X e O7:=by obtain⟨G2,i,x,g,r,t,p⟩:=h;exact⟨G2,i,gN x,g,r,t,p⟩
theorem yj{L':z5}(es:wG A N0 L'){X:C0->K1->Prop}{F':H1->Prop}{R:K0->D1->Prop}(hF:∀b,F b->F' b)(hR:∀e s',jT B F' A G s X e s'->R e s'){e:K0}(px:Px B F A G s X e s'):xL R2 A N0 R e s':=by
 obtain⟨G1,i,st,g1,xi,hx⟩:=px;obtain⟨L0,e0,cK,C9,hf,bG⟩:=es.HD;exact iY g1 xi C9 hf (λ O7 nC tb=>hR _ _ ⟨G1,i,(Qn hF).U2 (nC.2.E5 λ _ q=>Q6),nC.1,xi,tb,hx⟩) O bG
def Ak(B:Bs)(g:C0->Q1 PV)(cl:C0->C0)(n:C0)(E:C5):Prop:=
 ∀{A:C6}{G:Gh}{s:D1}{N0:o6}{L:z5}{O0:PV}{k k':C0}{Q4:C1}{P4:P0 P5}{a:It}{v:K0}{W:P0 H1}{R:BM->D1->Prop}{P:Fl->K1->Prop}{X:C0->K1->Prop},
  G5 B n A N0 L O0 G s->AH G W0 a v W->AI B G W0 N0 W->(CJ a=I0->∃e k p,Q4=.U9 e k p)->(E.Hq (cT L (cE g cl k L) Q4) a (cS g cl k' L P4) O0 R1).P1 P X->
  (∀f s',Po B (YE B N0) (DF N0 L W) A G s P f s'->R (.ok f) s')->(∀e s',jT B (DF N0 L W) A G s X e s'->R (.LD e) s')->JC R2 A (.fe Q4 v P4 [] N0) R s
theorem dM0(CT:aD B T)(ON:AF)(HE:z7 B g cl n ih)(HS:xJ B g cl n ih)(HL:Ak B g cl n ih):Ak B g cl (n+1) (K6 FZ T ih):=by
 intro A G s N0 L O0 k k' Q4 P4 a v W R P X X1 ia qP ht M0 PC JN;have X0:=Y00;have M0:(F1 zP (λ o=>match o with
  |A2=>W1 (.W4 O0)
  |E0 p=>F1 (aC FZ T ih (cT L (cE g cl k L) Q4) p.1 O0) λ e1=>F1 (cC (cS g cl k' L P4) e1) λ f=>Df (om (cT L (cE g cl k L) Q4) p.2 (cS g cl k' L P4)) f) R1).P1 P X:=M0
 have fW:∀b,BH W b->DF N0 L W b:=λ b q=> .L2 q;have fL:∀b,D5 N0 L b->DF N0 L W b:=λ b q=> .S2 q;refine Ov (mj tR.wZ X0.gd ia B00 ht M0 (λ s1 C2 g1 hf=>?_) λ s1 p u a' C2 g1 ru pa Wv hf=>?_)
 ·have D9:V5 B N0 D0 O0 G pE:=X0.Ga C2 Af M_;exact PC .W4 s1 ⟨G,.W4 O0,iC fW,g1,D9,hf⟩
 ·have D9:V5 B N0 D0 O0 G pE:=X0.Ga C2 Af M_;have Xa:G5 B n A N0 L O0 G s1:=⟨Rn,tR,g1,D9⟩;have qQ:=iC fW;have V50:∀e s',jT B (DF N0 L W) A G s1 X e s'->R (.LD e) s':=λ e s' h=>JN e s' (RJ qQ);have pe:AI B G pE N0 W:=qP.K6 C2;refine V3 ((Tv CT ON HE Xa ru).s8 hf λ G2 s2 V8 _ I2 g2 R6 MS=>?_) (λ _ _ h=>h) λ e s' px=>yj tR fL V50 px;refine V3 ((HS (k:=k') (st:=P4) Rn tR g2 R6).NE I2 MS λ G3 s3 fl f U5 rD g3 rf KN=>?_) (λ _ _ h=>h) λ e s' px=>yj tR fL V50 px;have Bk:=pf (i00 fL);have eK:∀tO,V5 B N0 D0 tO G3 TB0->(om (cT L (cE g cl k L) Q4) a' (cS g cl k' L P4) tO Ia).P1 P X->JC R2 A (.fe Q4 v P4 [] N0) R s3:=λ tO sD h=>
   HL (k:=k) (k':=k') ⟨Rn,tR,g3,sD⟩ (YB0 U5 λ b hb=>⟨ZB0 b hb,aB0 b hb⟩) (pe.K6 U5) (λ q=>ht (pa▸q)) h (λ f' s' po=>PC f' s' (po.I8 Bk)) λ e s' px=>JN e s' (Z00 Bk)
  cases fl using Ag with
  |W4 e=>
   cases f using JH with
   |W4=>exact eK e rf KN
   |_=>exact TK
  |bB e=>
   cases f using JH with
   |bB=>exact eK e rf KN
   |_=>exact TK
  |cB e=>
   cases f using JH with
   |cB=>exact PC .W4 s3 ⟨G3,.W4 e,Bk,g3,rf,KN⟩
   |_=>exact TK
  |U1 x e=>
   cases f using JH with
   |U1 y=>exact PC (.U1 y) s3 ⟨G3,.U1 x e,Bk,g3,rf,KN⟩
   |_=>exact TK
def Ck(B:Bs)(g:C0->Q1 PV)(cl:C0->C0)(n:C0)(E:C5):Prop:=
 ∀{A:C6}{G:Gh}{s:D1}{N0:o6}{L:z5}{O0:PV}{k k':C0}{kT:C1}{P4:P0 P5}{R:BM->D1->Prop}{P:Fl->K1->Prop}{X:C0->K1->Prop},
  G5 B n A N0 L O0 G s->(E.tv (cE g cl k L kT) (cS g cl k' L P4) O0 R1).P1 P X->
  (∀f s',Po B (YE B N0) (D5 N0 L) A G s P f s'->R (.ok f) s')->(∀e s',jT B (D5 N0 L) A G s X e s'->R (.LD e) s')->JC R2 A (.lx kT P4 [] N0) R s
theorem fV0(HT:kQ B g cl n ih)(HS:xJ B g cl n ih)(HL:Ck B g cl n ih):Ck B g cl (n+1) (K6 FZ T ih):=by
 intro A G s N0 L O0 k k' kT P4 R P X X1 M0 PC JN;have X0:=Y00;have M0:(F1 (OC ih (cE g cl k L kT) O0) (λ c=>UI c (F1 (cC (cS g cl k' L P4) O0) λ f=>Df (We (cE g cl k L kT) (cS g cl k' L P4)) f) (W1 (.W4 O0))) R1).P1 P X:=M0;refine FU0 ?_;refine V3 ((HT X0).s8 M0 λ G1 s1 c b C2 g1 rb E4=>?_) (λ _ _ h=>h) λ e s' px=>yj tR (λ _ q=>Q6) JN px;cases rb;have qQ:=iC (F':=D5 N0 L) λ _ q=>Q6;cases c using o7 with
 |R0=>exact PC .W4 s1 ⟨G1,.W4 O0,qQ,g1,X0.HI C2,E4⟩
 |I0=>
  have E4:(F1 (cC (cS g cl k' L P4) O0) (λ f=>Df (We (cE g cl k L kT) (cS g cl k' L P4)) f) qF).P1 P X:=E4;refine V3 ((HS (k:=k') (st:=P4) Rn tR g1 (X0.HI C2)).NE qQ E4 λ G3 s3 fl f U5 rD g3 rf KN=>?_) (λ _ _ h=>h) λ e s' px=>yj tR (λ _ q=>q) JN px;have eK:∀tO,V5 B N0 D0 tO G3 TB0->(We (cE g cl k L kT) (cS g cl k' L P4) tO Ia).P1 P X->JC R2 A (.lx kT P4 [] N0) R s3:=λ tO sD h=>
   HL (k:=k) (k':=k') ⟨Rn,tR,g3,sD⟩ h (λ f' s' po=>PC f' s' (po.I8 U5)) λ e s' px=>JN e s' (Z00 U5)
  cases fl using Ag with
  |W4 e=>
   cases f using JH with
   |W4=>exact eK e rf KN
   |_=>exact TK
  |bB e=>
   cases f using JH with
   |bB=>exact eK e rf KN
   |_=>exact TK
  |cB e=>
   cases f using JH with
   |cB=>exact PC .W4 s3 ⟨G3,.W4 e,U5,g3,rf,KN⟩
   |_=>exact TK
  |U1 x e=>
   cases f using JH with
   |U1 y=>exact PC (.U1 y) s3 ⟨G3,.U1 x e,U5,g3,rf,KN⟩
   |_=>exact TK
theorem Xv{L':z5}(es:wG A N0 L'){X:C0->K1->Prop}{E:K0->D1->Prop}(hE:∀e s',Px B F A G s X e s'->E e s'){e:K0}(px:jT B F A G s X e s'):ww R2 A N0 E e s':=by
 symm;obtain⟨G1,i,st,g1,xi,⟨c,d,vs,Tb,hv,h1⟩,hx⟩:=px;have Rd:=xi;obtain⟨hi,O,_⟩:=Rd;ext;refine S0 (N7 hv O h1 ?_);have O6:V0 R2 A (Re (.J0 (Zz i)) lW) (λ _ O7=>E (.J0 (Zz i)) O7) E s':=gQ g1 xi λ O7 nC=>hE _ _ ⟨G1,i,gN (nC.2.E5 λ _ q=>Q6),nC.1,xi,hx⟩;first
  |exact O6
  |exact S0 (E2 O6)
def eM0(M:YB)(A:C6)(N0:o6)(J4:P0 P5)(Q:OJ->D1->Prop)(E:K0->D1->Prop)(f:OJ)(s:D1):Prop:=match f with
 |.W4=>V0 M A (mC J4 N0) Q E s
 |f=>Q f s
theorem Sd{J4:P0 P5}(H:xJ B g cl n ih)(D6:O8 n A)(es:wG A N0 L){G2:Gh}{s2:D1}{fl:Fl}{f:OJ}(st:A3 B (D5 N0 L) G s G2 s2)(g2:J1 B A G2 s2)(rf:YE B N0 G2 TN fl f){P:Fl->K1->Prop}{X:C0->K1->Prop}
  (M0:(tK ih (cS g cl k L J4) fl XR).P1 P X):eM0 R2 A N0 J4 (Po B (YE B N0) (D5 N0 L) A G s P) (Px B (D5 N0 L) A G s X) f s2:=by
 cases fl using Ag with
 |W4 e=>
  cases f using JH with
  |W4=>exact(H (k:=k) (st:=J4) D6 es g2 rf).I8 st M0
  |_=>exact TK
 |bB e=>
  cases f using JH with
  |bB=>exact⟨G2,.bB e,st,g2,rf,M0⟩
  |_=>exact TK
 |cB e=>
  cases f using JH with
  |cB=>exact⟨G2,.cB e,st,g2,rf,M0⟩
  |_=>exact TK
 |U1 x e=>
  cases f using JH with
  |U1 y=>exact⟨G2,.U1 x e,st,g2,rf,M0⟩
  |_=>exact TK
theorem ZX{α:Type}{w:C0}{b:I1}{m:M α}{σ:K1}{P:α->K1->Prop}{X:C0->K1->Prop}(h:(pA w b m σ).P1 P X):b=I0/\(m σ).P1 P X:=by
 cases b using o7 with
 |I0=>exact⟨O,h⟩
 |R0=>exact u4
theorem fM0{f:C1->C}{t:C1}{ts:C}(h:cT L f t=.Q0 ts):∃e j p,t=.U9 e j p:=by
 cases t using j9 with
 |U9 e j p=>exact⟨e,j,p,O⟩
 |u3 x p=>
  change(bif A5 x&&z6 L x then C.F0 (vc x)else .M2)=_ at h;cases hx:A5 x&&z6 L x<;>rw[hx]at h<;>contradiction
 |CD o x p=>
  change(bif pD x then C.Z1 (vc x) (f o)else .M2)=_ at h;cases hx:pD x<;>rw[hx]at h<;>contradiction
 |BD o i p=>cases i using j9<;>contradiction
 |_=>contradiction
theorem W50{f:C1->C}{t:C1}{a:It}(h:EV a (cT L f t)=I0)(hp:CJ a=I0):∃e j p,t=.U9 e j p:=by
 have U7:∃ts,cT L f t=.Q0 ts:=by
  cases a using QP with
  |v8 a b=>exact T20 h
  |OE m a=>exact T20 h
  |_=>contradiction
 obtain⟨ts,e⟩:=U7;exact fM0 e
theorem gM0{l:P0 H1}{G:Gh}{h:O1}(hk:LL G h l h){fl:Fl}{f:OJ}(r:YE B N0 G h fl f):YE B N0 (NO l) h fl f:=by
 cases fl using Ag with
 |W4 e=>cases f<;>first|exact yz r hk λ _ _ e=>e|exact YI
 |bB e=>cases f<;>first|exact yz r hk λ _ _ e=>e|exact YI
 |cB e=>cases f<;>first|exact yz r hk λ _ _ e=>e|exact YI
 |U1 x e=>cases f<;>first|exact Nd hk r|exact YI
set_option backward.match.sparseCases true in
theorem hM0(BF:S7 B g)(HE:z7 B g cl n ih)(HL:Ak B g cl n ih)(HS:xJ B g cl n ih)(X:G5 B n A N0 L O0 G s){t it:C1}{P4 J4:P0 P5}{D2:T3}{k1 k2 k3:C0}{P:Fl->K1->Prop}{Q:C0->K1->Prop}
  (M0:(F1 (KQ ih O0 (cI (cE g cl k L) L it)) (λ a=>pA 84 (EV a (cT L (cE g cl k1 L) t)) (F1 (om (cT L (cE g cl k1 L) t) a (cS g cl k2 L P4) O0) λ fl=>tK ih (cS g cl k3 L J4) fl)) R1).P1 P Q):
  V0 R2 A (mC (.eX t it P4 [] D2::J4) N0) (Po B (YE B N0) (D5 N0 L) A G s P) (Px B (D5 N0 L) A G s Q) s:=by
 refine AB (CW0 ?_ λ x=>Kv M0 x);have nm:∀{e:K0}{s':D1},Px B N2 A G s Q e s'->Px B (D5 N0 L) A G s Q e s':=λ Z2=>by obtain⟨G2,i,I2,g2,xi,hp⟩:=Z2;exact⟨G2,i,sL λ _ q=>Q6,g2,xi,hp⟩
 refine V3 (R50 BF HE X M0 (K:=λ v s2=>JC R2 A (.fe t v P4 [] N0) (λ r s'=>match r with
   |.ok f=>(match f with|.W4=>V0 R2 A (mC J4 N0) (Po B (YE B N0) (D5 N0 L) A G s P) (Px B (D5 N0 L) A G s Q) s'|f=>Po B (YE B N0) (D5 N0 L) A G s P f s')
   |.LD e=>ww R2 A N0 (Px B (D5 N0 L) A G s Q) e s') s2) λ G1 s1 l h' tk a v W C2 g1 hk hW hl gw ia sA hf=>?_)
  (λ x s1 h=>V3 h (λ _ _ h=>h) λ _ _ px=>nm px) λ _ _ px=>nm px
 obtain⟨ht,hf⟩:=ZX hf;have qQ:=iC (F':=D5 N0 L) λ _ q=>Q6;have av:LL G1 pE (l++mD) h':=Pd hk λ b hb=>hW b (hl b hb);have D9:=iL C2;have Yv:V5 B N0 D0 O0 (sN (l++mD)) h':=D9.qW av hk;have qP:AI B (sN (l++mD)) h' N0 W:=by
  refine⟨sA,λ q=>?_,λ y c hc q=>?_⟩
  ·obtain⟨m,⟨o,_,_,e,_⟩,_⟩:=D9.ns;rw[hW _ q]at e;contradiction
  ·obtain⟨u,o,e,_⟩:=D9.ai y c hc;rw[hW _ q]at e;contradiction
 have hF:∀b,DF N0 L W b->D5 N0 L b\/IJ b=H0:=λ b q=>q.QM id λ q=>hW b q;refine HL (k:=k1) (k':=k2) (G:=sN (l++mD)) (s:={s1 with B3:=h',B4:=tk}) (P:=λ fl σ=>(tK ih (cS g cl k3 L J4) fl σ).P1 P Q) (X:=Q) ⟨iD,WB,gw,Yv⟩ ia qP (W50 ht) (j6 hf) (λ f s2 po=>?_) λ e s2 px=>?_
 ·obtain⟨G2,fl,I2,g2,rf,hp⟩:=po;have Dk:∀b∈mD,b∈G2.av:=λ b hb=>by rw[I2.QU];exact UZ _ hb
  have Td:=dy (s:=s1) hk (λ b hb=>hW b (hl b hb)) I2 hF;have O6:=Sd (k:=k3) HS iD WB (pf Td) (g2.TF Dk) (gM0 (λ b vs n hb e=>⟨λ q=>hb (Dk b q),e⟩) rf) hp;cases f<;>exact O6
 ·obtain⟨G2,i,I2,g2,xi,tb,hp⟩:=px;have Dk:∀b∈mD,b∈G2.av:=λ b hb=>by rw[I2.QU];exact UZ _ hb
  have Td:=dy (s:=s1) hk (λ b hb=>hW b (hl b hb)) I2 hF;exact Xv WB (λ _ _ h=>h) ⟨G2.qW mD,i,pf Td,g2.TF Dk,xi.qW,tb,hp⟩
theorem iM0(HL:Ck B g cl n ih)(HS:xJ B g cl n ih)(X:G5 B n A N0 L O0 G s){t:C1}{P4 J4:P0 P5}{D2:T3}{k2 k3:C0}{P:Fl->K1->Prop}{Q:C0->K1->Prop}
  (M0:(F1 (We (cE g cl k L t) (cS g cl k2 L P4) O0) (λ fl=>tK ih (cS g cl k3 L J4) fl) R1).P1 P Q):
  V0 R2 A (mC (.Fz t P4 [] D2::J4) N0) (Po B (YE B N0) (D5 N0 L) A G s P) (Px B (D5 N0 L) A G s Q) s:=by
 refine AB (wpAny_While ?_);refine HL (k:=k) (k':=k2) (P:=λ fl σ=>(tK ih (cS g cl k3 L J4) fl σ).P1 P Q) (X:=Q) X (j6 M0) (λ f s2 po=>?_) λ e s2 px=>Xv WB (λ _ _ h=>h) px;obtain⟨G2,fl,I2,g2,rf,hp⟩:=po;have O6:=Sd (k:=k3) HS iD WB I2 g2 rf hp;cases f<;>exact O6
end
section
open PyProof.Rows
variable{B:Bs}{A:Around}{G G':Gh}{s s':Shared}{F:Addr->Prop}{FZ:Nat->Bool}
variable{g:Nat->Option PV}{cl:Nat->Nat}{n:Nat}{ih:C5}{T:Tab}{cenv:Env}{L:Kinds}{env:PV}{k:Nat}
theorem J1.we{C:H1}{h':O1}{G1 G2:Gh}{s1 s2:D1}(g1:J1 B A G1 s1)(g2:J1 B A G2 s2)(st:A3 B F G1 s1 G2 s2)(hC:x8 B G2 TN C)(hn:IJ C=H0)(hd:∀o,s2.FV C=E0 o->∃es ep,I9=.H2 es ep)(hs:WA C TN h'):
  J1 B A G2 {s2 with B3:=h'}/\A3 B F G1 s1 G2 {s2 with B3:=h'}:=by
 have k:∀b o,b≠C->s2.FV b=E0 o->D3 b=E0 o:=λ b o hb e=>mW b o hb e;have Ua:∀{b o},IJ b=E0 o->b≠C:=λ e q=>by rw[q,hn]at e;contradiction
 have Q0:∀b vs n,s2.FV b=E0 (F8 vs n)->D3 b=E0 (F8 vs n):=λ b vs n e=>k b _ (by
  rintro O;obtain⟨es,ep,q⟩:=hd _ e;contradiction) e
 have Zv:∀{b o vs},s2.FV b=E0 o->I9=.T5 vs->b≠C:=λ e d q=>by
  subst q;obtain⟨es,ep,q⟩:=hd _ e;rw[d]at q;contradiction
 obtain⟨h2,t2,O⟩:=Pf;obtain⟨l,hl,OO⟩:=g1.fr;have k3:XE pE h':=⟨λ b o ts e c d=>by
   obtain⟨o',iH,e',c',d',z⟩:=DX.tb b o ts e c d;exact⟨o',iH,k _ _ (Ua e) e',c',d',z⟩,λ b o e c d=>by
   obtain⟨o',e',c',d'⟩:=DX.fr b o e c d;exact⟨o',k _ _ (Ua e) e',c',d'⟩,λ b o e c=>k _ _ (Ua e) (DX.bA b o e c)⟩
 refine⟨⟨g2.ty,⟨g2.pp,λ i hi=>?_,g2.inv.big,g2.XS0,λ a ha=>?_⟩,λ b o e h1 h3 h4=>k _ _ (λ q=>by rw[q,bB0]at e;contradiction) (kU b o e h1 h3 h4),
  xR _ _ (λ b o e hz=>k _ _ (NB0 (λ q z=>hC.z (z▸q)) λ c=>Mo (λ c=>by obtain⟨_,_,d⟩:=c;exact Zv e d) λ zz z=>DM zz λ y q=>by rw[z,bB0]at q;contradiction) e) g2.NG,l,hl,Un k3⟩,⟨h',t2,O⟩,IU,Tf,λ b o e=>?_,λ b o e h1 h3 h4=>?_,λ b vs n hb e=>Q0 _ _ _ (JX b vs n hb e),k3⟩
 ·by_cases ha:zn i=.K4
  ·rw[ha];trivial
  ·have Z6:BX i≠C:=λ q=>hC.v9 ⟨i,hi,ha,q⟩;have ob:=g2.ip i hi;have ho:∀o,h2.X5 (BX i)=E0 o->D3 (BX i)=E0 o:=λ o e=>k _ _ Z6 e;have tk:CC G2.av h2 h':=λ b vs n _ e=>Q0 b vs n e;cases ex:zn i with
   |K4=>exact U3 ex ha
   |M1 l=>rw[ex]at ob;obtain⟨vs,n,e,r⟩:=ob;exact⟨vs,n,ho _ e,WI (.M5 _) tk⟩
   |H2 l=>rw[ex]at ob;obtain⟨V2,⟨o,es,ep,e,q⟩,r⟩:=ob;exact⟨V2,⟨o,es,ep,ho _ e,q⟩,WI (.M5 _) tk⟩
   |W6 l=>rw[ex]at ob;obtain⟨V2,o,e,hc,hn,nd,r⟩:=ob;exact⟨V2,o,ho _ e,hc,hn.at λ o e=>ho _ e,nd,WI (.M5 _) tk⟩
   |w7 c d=>rw[ex]at ob;obtain⟨e,q,f⟩:=ob;exact⟨ho _ e,q,f⟩
   |K8 cx c d=>
    rw[ex]at ob;obtain⟨vs,e,hl,q,t1,t2⟩:=ob;refine⟨vs,ho _ e,hl,q,t1,t2.QM id λ z=>by obtain⟨T,oT,ts,e1,e2,c1,d1,z1⟩:=z;exact⟨T,oT,ts,e1,k _ _ (Zv e2 d1) e2,c1,d1,z1⟩⟩
   |qA m=>
    rw[ex]at ob;refine B.jI0 m h2 h' _ (λ b o e q=>?_) ob;rcases q with O|q
    ·exact ho _ e
    ·obtain⟨_,_,d⟩:=q;exact k _ _ (Zv e d) e
   |bm f u=>rw[ex]at ob;obtain⟨w,e,r⟩:=ob;exact⟨w,ho _ e,WI (.M5 _) tk⟩
   |S4=>rw[ex]at ob;obtain⟨x,t,y,u,n,e⟩:=ob;exact⟨x,t,y,u,n,ho _ e⟩
   |ti x=>rw[ex]at ob;exact ob.KB
 ·obtain⟨h1,o,e⟩:=g2.E80 a ha;obtain⟨_,o1,e1⟩:=r00 a (by rw[<-RX];exact ha);exact⟨h1,o,k _ _ (Ua e1) e⟩
 ·obtain⟨o',e'⟩:=mf b o e;exact⟨o',k _ _ (Ua e) e'⟩
 ·obtain⟨o',e',q⟩:=MX b o e h1 h3 h4;exact⟨o',k _ _ (Ua e) e',q⟩
structure rQ(L:z5)(sc:cA)(Q4:C1):Prop where
 fn:Xf=.sF
 nt:(∃x p,Q4=.u3 x p)\/∃e j p,Q4=.U9 e j p
 F0:∀x,XC x=E0 .G7->x=".0"\/x∈cF Q4
 each:∀x∈w5,x.1≠"__class__"/\((x.2=.G7/\XC x.1=E0 .G7)\/(x.2=.j7/\G9 x.1=E0 .l6/\XC x.1=E0 .j7)\/(x.2=.SL/\XC x.1=E0 .SL))
theorem jM0:∀{l m:P0 u0},Wh l m=I0->l=m:=by
 intro l;induction l with
 |B0=>
  intro m h;cases m using i5 with
  |B0=>rfl
  |A0 _ _=>contradiction
 |A0 x l ih=>
  intro m h;cases m using i5 with
  |B0=>contradiction
  |A0 y m=>
  have h:(x==y&&Wh l m)=I0:=h;rw[N5,MU]at h;rw[h.1,ih h.2]
theorem OU{α:Type}{x:u0}{v:α}:∀{l:P0 (u0×α)},l.e9 x=E0 v->(x,v)∈l:=by
 intro zq;induction zq with
 |B0=>
  intro h;contradiction
 |A0 pq r ih=>
  intro h;obtain⟨y,u⟩:=pq;rw[JR]at h;cases hx:x==y with
  |I0=>rw[hx]at h;obtain O:=I3 h;rw[dD hx];exact aE ..
  |R0=>rw[hx]at h;exact AC _ (ih h)
theorem X50{sc:cA}{Q4:C1}(h:OQ L sc Q4=I0):rQ L sc Q4:=by
 unfold OQ at h;simp -w4 only[N5]at h;obtain⟨⟨⟨h1,h2⟩,h3⟩,h4⟩:=h;refine⟨?_,?_,λ x hx=>?_,λ x hx=>?_⟩
 ·generalize Xf=k at h1 ⊢;cases k<;>first|rfl|contradiction
 ·cases q:V7 Q4 with
  |E0 x=>exact .S2 ⟨x,LY q⟩
  |H0=>
   rw[q]at h2;obtain⟨ts,q2⟩:=CT0 h2;exact .L2 ⟨ts,SC0 q2⟩
 ·have hm:=OU hx;have e:=jM0 h3;have:x∈((w5.Xm λ x=>x.2==.G7).Y4 (·.1)):=HP ⟨(x,.G7),ZU0 ⟨hm,by trivial⟩,O⟩;rw[e]at J2;exact kA J2
 ·have:=IR h4 x hx;simp -w4 only[N5,FP,i80,az]at J2;refine⟨J2.1,?_⟩;have t2:=J2.2;obtain⟨y,k⟩:=x;cases k using FK.n8 with
  |«local»=>
   have t2:(n7 w5 y&&!(E7 w5 y)&&(XC y==E0 .G7))=I0:=t2;rw[N5]at t2;exact .S2 ⟨O,MU.mp t2.2⟩
  |j7=>
   have t2:(G9 y==E0 .l6&&XC y==E0 .j7)=I0:=t2;rw[N5]at t2;exact .L2 (.S2 ⟨O,MU.mp t2.1,MU.mp t2.2⟩)
  |SL=>exact .L2 (.L2 ⟨O,MU.mp t2⟩)
  |_=>contradiction
theorem kM0{W9:o6}(hc:∀x,G9 x=E0 .l6->W9.wT x=E0 .l6)(hf:W9.ST=.sF):∀{y7:P0 (u0×FK)}{x:u0},(∀y∈y7,y.2=.G7\/(y.2=.j7/\G9 y.1=E0 .l6)\/y.2=.SL)->
  (y7.Y4 λ(n,k)=>if(k==FK.j7&&W9.ST==.sF&&W9.wT n==E0 .l6)then(n,MR)else(n,k)).e9 x=(names.lookup x).Y4 λ k=>if k=.j7 then .l6 else k:=by
 intro y7;induction y7 with
 |B0=>exact λ _=>O
 |A0 a r ih=>
  intro x h;obtain⟨m,k⟩:=a;have ih:=ih (x:=x) λ y hy=>h y (AC _ hy);have hh:=h (m,k) (aE ..);have hp:(if(k==FK.j7&&W9.ST==.sF&&W9.wT m==E0 .l6)=I0 then(m,MR)else(m,k))=(m,if k=.j7 then .l6 else k):=by
   rcases hh with q|⟨q,q2⟩|q
   ·have q:k=.G7:=q;subst q;simp -w4
   ·have q:k=.j7:=q;subst q;rw[hf,hc m q2];simp -w4
   ·have q:k=.SL:=q;subst q;simp -w4
  show P0.e9 x ((if(k==FK.j7&&W9.ST==.sF&&W9.wT m==E0 .l6)=I0 then(m,MR)else(m,k))::_)=_;rw[hp,JR,JR];cases x==m
  ·exact ih
  ·rfl
theorem lM0{W9:o6}:∀{y7:P0 (u0×FK)}(N3:P0 (u0×H1)),(∀y∈y7,y.2=.j7->∃c,lj y.1=E0 c)->(∀p∈N3,lj p.1=E0 p.2)->
  ∃cl:P0 (u0×H1),(Mf y7 N3 (λ(x:u0×FK) (cs:P0 (u0×H1))=>if(x.2==FK.j7)=I0 then(do let c <-gy W9 x.1;L4 (Dm.xW ((x.1,c)::cs)))else L4 (Dm.xW cs)):Y7 (P0 (u0×H1)))=L4 cl/\(∀p∈cl,lj p.1=E0 p.2)/\(∀p∈N3,p∈cl)/\∀y∈y7,y.2=.j7->∃c,(y.1,c)∈cl:=by
 intro zq;induction zq with
 |B0=>
  intro N3 _ ha;exact⟨N3,O,ha,λ _ h=>h,λ _ h=>(nomatch h)⟩
 |A0 pq r ih=>
  intro N3 h ha;obtain⟨m,k⟩:=pq;rw[PW];by_cases hk:k=.j7
  ·subst hk;obtain⟨c,hc⟩:=h (m,.j7) (aE ..) O;obtain⟨cl,e,h1,h2,h3⟩:=ih ((m,c)::N3) (λ y hy=>h y (AC _ hy)) (λ p hp=>by
    rcases kA hp with O|hp
    ·exact hc
    ·exact ha p hp)
   refine⟨cl,?_,h1,λ p hp=>h2 p (AC _ hp),λ y hy q=>?_⟩
   ·rw[y3 (by rfl)];have:gy W9 m=L4 c:=by unfold gy;rw[hc]
    rw[J2];exact e
   ·rcases kA hy with O|hy
    ·exact⟨c,h2 _ (aE ..)⟩
    ·exact h3 y hy q
  ·obtain⟨cl,e,h1,h2,h3⟩:=ih N3 (λ y hy=>h y (AC _ hy)) ha;refine⟨cl,?_,h1,h2,λ y hy q=>?_⟩
   ·rw[w3 (by simpa -w4 using hk)];exact e
   ·rcases kA hy with O|hy
    ·exact U3 q hk
    ·exact h3 y hy q
theorem Y50{sc:cA}{W9:o6}(h:∀y∈w5,y.2=.j7->∃c,lj y.1=E0 c):
  ∃cl:P0 (u0×H1),Bm sc W9=L4 cl/\(∀x c,cl.e9 x=E0 c->lj x=E0 c)/\∀y∈w5,y.2=.j7->∃c,cl.e9 y.1=E0 c:=by
 obtain⟨cl,e,h1,_,h3⟩:=lM0 (y7:=w5) (W9:=W9) [] h (λ _ h=>nomatch h);refine⟨cl,?_,λ x c hx=>h1 _ (OU hx),λ y hy q=>?_⟩
 ·unfold Bm;first
   |exact e
   |(simp -w4 only[bind_pure];exact e)
   |(rw[<-e];rfl)
 ·obtain⟨c,hc⟩:=h3 y hy q;cases hx:cl.e9 y.1 with
  |E0 c'=>exact⟨c',O⟩
  |H0=>
   exfalso
   have:∀{l:P0 (u0×H1)},l.e9 y.1=H0->∀c,(y.1,c)∉l:=λ{l}=>by
    induction l with
    |B0=>intro _ c h;contradiction
    |A0 p r ih=>
     intro hl c hm;rw[JR]at hl;cases hb:y.1==p.1 with
     |I0=>rw[hb]at hl;contradiction
     |R0=>
      rw[hb]at hl;rcases kA hm with q|q
      ·rw[<-q]at hb;simp -w4 at hb
      ·exact ih hl c q
   exact J2 hx c hc
end
section
section
open PyProof.Rows
variable{B:Bs}{A:Around}{G G':Gh}{s s':Shared}{F:Addr->Prop}{FZ:Nat->Bool}
variable{g:Nat->Option PV}{cl:Nat->Nat}{n:Nat}{ih:C5}{T:Tab}{cenv:Env}{L:Kinds}{env:PV}{k:Nat}
section
variable{sc:Scope}{tgt:Expr}{cs:List (Str×Addr)}{C:Addr}
theorem wY(co:rQ L sc Q4)(ES:n9 N0 L)(x:u0):(WP sc cs C N0).wT x=(XC x).Y4 λ k=>if k=.j7 then .l6 else k:=
 kM0 (λ x q=>P00 x q) iP λ y hy=>by
  rcases(ie y hy).2 with h|h|h
  ·exact .S2 h.1
  ·exact .L2 (.S2 ⟨h.1,h.2.1⟩)
  ·exact .L2 (.L2 h.1)
theorem Ek(co:rQ L sc Q4){x:u0}{kd:FK}(h:XC x=E0 kd):x≠"__class__"/\(kd=.G7\/(kd=.j7/\G9 x=E0 .l6)\/kd=.SL):=by
 obtain⟨h1,h2⟩:=ie _ (OU h);refine⟨h1,?_⟩;rcases h2 with h2|h2|h2
 ·exact .S2 h2.1
 ·exact .L2 (.S2 ⟨h2.1,h2.2.1⟩)
 ·exact .L2 (.L2 h2.1)
theorem mM0(co:rQ L sc Q4)(ES:wG A N0 L):wG A (WP sc cs C N0) w5:=by
 refine⟨⟨bz,λ x q=>?_,λ x q=>?_,λ x q=> .S2 ?_,λ x q=>?_,Go,ES.pF,λ q=>?_⟩,ES.HD,a00⟩
 ·rw[wY co MF,q];rfl
 ·rcases(Ek co q).2 with h|h|h
  ·contradiction
  ·cases h.1
  ·contradiction
 ·rw[wY co MF,q];rfl
 ·rw[wY co MF,q];rfl
 ·rw[wY co MF]at q;cases hl:XC ("__class__":u0)with
  |H0=>rw[hl]at q;contradiction
  |E0 kd=>exact(Ek co hl).1 O
theorem Z50(co:rQ L sc Q4)(ES:n9 N0 L){x:u0}(h:(WP sc cs C N0).wT x=E0 .G7):XC x=E0 .G7:=by
 rw[wY co ES]at h;cases hl:XC x with
 |H0=>rw[hl]at h;contradiction
 |E0 kd=>
  rw[hl]at h;rcases(Ek co hl).2 with q|q|q
  ·rw[q]
  ·obtain⟨q,_⟩:=q;subst q;contradiction
  ·subst q;contradiction
theorem a50(co:rQ L sc Q4)(ES:n9 N0 L){x:u0}(h:(WP sc cs C N0).wT x=E0 .l6\/(WP sc cs C N0).wT x=E0 .j7):XC x=E0 .j7/\CB x=E0 .l6:=by
 rw[wY co ES]at h;cases hl:XC x with
 |H0=>rw[hl]at h;rcases h with h|h<;>contradiction
 |E0 kd=>
  rw[hl]at h;rcases(Ek co hl).2 with q|q|q
  ·subst q;rcases h with h|h<;>contradiction
  ·obtain⟨q,q2⟩:=q;subst q;exact⟨O,P00 x q2⟩
  ·subst q;rcases h with h|h<;>contradiction
theorem nM0(co:rQ L sc Q4)(ES:n9 N0 L)(YF:∀x c,wf x=E0 c->mF x=E0 c)(xN:∀y∈w5,y.2=.j7->∃c,wf y.1=E0 c){h:O1}(er:V5 B N0 D0 O0 G h)(hC:x8 B G h C)(hn:∃m,eH C m):
  V5 B (WP sc cs C N0) (λ y=>XC y=E0 .G7) O0 G h:=by
 obtain⟨m,hm⟩:=hn;refine⟨⟨m,hm,λ x v h1 h2 _ _=>U3 (Z50 co ES h1) h2⟩,λ x v h1 h3 h4=>?_,λ x c e=>UX x c (YF x c e),λ x h1=>?_,λ x y c e e'=>Ny x y c (YF x c e) (YF y c e'),⟨hC.v9,bB0,hC.z⟩,λ x c e=>EX x c (YF x c e),Tg⟩
 ·symm;obtain⟨q1,q2⟩:=a50 co ES h1;obtain⟨c,u,hc,hi,r⟩:=O00 x v (.S2 q2) h3 h4;obtain⟨c',dB⟩:=xN (x,.j7) (OU q1) O;have:=YF x c' dB;rw[hc]at J2;obtain O:=I3 J2;ext;exact⟨c,u,dB,hi,r⟩
 ·obtain⟨q1,q2⟩:=a50 co ES (.S2 h1);exact xN (x,.j7) (OU q1) O
end
theorem V5.reset{D:u0->Prop}(er:V5 B N0 D O0 G W0)(hD:∀x,CB x=E0 .G7->D x)(st:A3 B F G s G' s')(hC:∀y c,mF y=E0 c->¬F c)(hn:∃m,Hg NA m):V5 B N0 D O0 G' U6:=by
 obtain⟨m,hm⟩:=hn;have kc:∀y c u,mF y=E0 c->s.ld c u->s'.ld c u:=λ y c u hl hc=>by
  obtain⟨o,e,d⟩:=id hc;exact cW.M3 hc λ o' e'=>N00 e' (EX y c hl).1 (hC y c hl) (EX y c hl).2.2 (by rw[e]at e';obtain O:=I3 e';rw[d];intro vs q;contradiction)
 have v9:∀b o,F3 b=E0 o->¬w9 G b->¬w9 G' b:=λ b o e n q=>by
  rcases Tf b q with h|h
  ·exact n h
  ·rw[e]at h;contradiction
 refine⟨⟨m,hm,λ x v h1 h2 _ _=>U3 (hD x h1) h2⟩,λ y v h1 h3 h4=>?_,λ y c hl=>?_,Vo,Ny,⟨?_,kP.2⟩,λ y c hl=>⟨?_,(EX y c hl).2⟩,Tg⟩
 ·obtain⟨c,u,hl,hc,r⟩:=O00 y v h1 h3 h4;exact⟨c,u,hl,kc y c _ hl hc,Fa st⟩
 ·obtain⟨u,hu⟩:=UX y c hl;exact⟨u,kc y c u hl hu⟩
 ·obtain⟨m0,⟨o,_,_,e,_⟩,_⟩:=lU;exact v9 _ o e kP.1
 ·obtain⟨u,o,e,_⟩:=UX y c hl;exact v9 _ o e (EX y c hl).1
theorem oM0(gd:J1 B A G s){r:C0}(hr:r<J3){p:PV}{v:K0}(rp:H3 G W0 p v){γ:Type}{f:T7->M γ}{P:γ->K1->Prop}{X:C0->K1->Prop}(M0:(F1 (Vq r p) f R1).P1 P X){K:D1->Prop}{E:K0->D1->Prop}
  (hK:∀G' s',A3 B N2 G s G' s'->J1 B A G' s'->(f () wF).P1 P X->K s'):V0 R2 A (X7 (.Z4 "list.append") [.J0 (Y2 r),v]) (λ _ s'=>K s') E s:=by
 have M0:(F1 ((match P3 r with|.M1 l=>bif I5 l then wW r (.M1 (wR p l))else F2 82|_=>F2 82):M T7) f R1).P1 P X:=M0;generalize ex:P3 r=zo at M0;cases zo using FA with
 |M1 l=>
  change(F1 (bif I5 l then wW r (.M1 (wR p l))else F2 82) f R1).P1 P X at M0;cases hs:I5 l with
  |R0=>rw[hs]at M0;exact C4
  |I0=>
   rw[hs]at M0;have M0:(f () (G.dU r (.M1 (wR p l)))).P1 P X:=M0;have sn:=j40 (FZ:=λ _=>R0) gd hr ex (L1:=.A0 p .B0) (vs:=[v]) ⟨v,[],O,rp,O⟩ (λ _ σ=>(f () σ).P1 P X) (λ _ _=>J6) (by
    show((bif I5 l then F1 (ME (λ _=>R0) r (.M1 (wR p l))) λ _=>W1 SH else F2 40) R1).P1 _ _;rw[hs];exact M0)
   exact V3 sn (λ _ s' Z2=>by obtain⟨G2,a,st,g2,_,hp⟩:=Z2;exact hK G2 s' st g2 hp) λ _ _ Z2=>by obtain⟨_,_,_,_,_,h⟩:=Z2;exact u4
 |_=>exact C4
structure Gk(B:Bs)(F:H1->Prop)(A:C6)(G:Gh)(s:D1)(C:H1)(P:T7->K1->Prop)(s':D1):Prop where
 ex:∃G',A3 B F G s G' s'/\J1 B A G' s'/\P () wF/\x8 B G' U6 C
 ns:∃m,Hg C m
structure Ik(B:Bs)(F:H1->Prop)(A:C6)(G:Gh)(s:D1)(C:H1)(X:C0->K1->Prop)(e:K0)(s':D1):Prop where
 ex:∃G' i,A3 B F G s G' s'/\J1 B A G' s'/\vG G' i e/\zM G' U6 i/\X i wF/\x8 B G' U6 C
 ns:∃m,Hg C m
theorem Gk.I8{C:H1}{P:T7->K1->Prop}{O7:D1}(st:A3 B F G s G' s')(h:Gk B F A G' s' C P O7):Gk B F A G s C P O7:=by obtain⟨G2,x,g,p,a⟩:=h.ex;exact⟨⟨G2,gN x,g,p,a⟩,h.ns⟩
theorem Ik.I8{C:H1}{X:C0->K1->Prop}{e:K0}{O7:D1}(st:A3 B F G s G' s')(h:Ik B F A G' s' C X e O7):Ik B F A G s C X e O7:=by obtain⟨G2,i,x,g,r,t,p,a⟩:=h.ex;exact⟨⟨G2,i,gN x,g,r,t,p,a⟩,h.ns⟩
def b50(t:C1):Prop:=(∃x p,t=.u3 x p)\/∃e j p,t=.U9 e j p
def xY(B:Bs)(g:C0->Q1 PV)(cl:C0->C0)(n:C0)(E:C5):Prop:=
 ∀{A:C6}{G:Gh}{s:D1}{N0:o6}{L:z5}{O0:PV}{k:C0}{Q4 Y5 lI:C1}{A7:P0 C1}{tc:C}{sc:cA}{D2:T3}{a:It}{v:K0}{W:P0 H1}{r:C0}{R:BM->D1->Prop}{P:T7->K1->Prop}{X:C0->K1->Prop},
  ((A7=[]/\tc=cT L (cE g cl k L) Q4)\/tc=.M2)->(∀x,G9 x≠E0 .l6)->(∀x,G9 x=E0 .G7->x=".0"\/x∈cF Q4)->(∀x,CB x=E0 .G7->G9 x=E0 .G7)->b50 Q4->O8 n A->wG A N0 L->J1 B A G s->V5 B N0 (λ y=>G9 y=E0 .G7) O0 G W0->
  AH G W0 a v W->AI B G W0 N0 W->(CJ a=I0->∃e k p,Q4=.U9 e k p)->r<J3->(E.Iq (cE g cl k L Y5) tc a r O0 R1).P1 P X->
  (∀s',Gk B (DF N0 L W) A G s NA P s'->R (.ok .W4) s')->(∀e s',Ik B (DF N0 L W) A G s NA X e s'->R (.LD e) s')->
  JC R2 A (.Nm (.QB Y5 [⟨Q4,lI,A7,0⟩] sc D2) 0 v (.J0 (Y2 r)) N0) R s
theorem c50{t:C1}(nt:b50 t){f:C1->C}{p O0:PV}{P:PV->K1->Prop}{X X':C0->K1->Prop}{σ:K1}(h:(aC FZ T ih (cT L f t) p O0 σ).P1 P X):(aC FZ T ih (cT L f t) p O0 σ).P1 P X':=by
 rcases nt with⟨x,q,O⟩|⟨e,j,q,O⟩
 ·change(aC FZ T ih (bif A5 x&&z6 L x then .F0 (vc x)else .M2) p O0 σ).P1 P X at h;change(aC FZ T ih (bif A5 x&&z6 L x then .F0 (vc x)else .M2) p O0 σ).P1 P X';cases hx:A5 x&&z6 L x with
  |R0=>rw[hx]at h;exact u4
  |I0=>rw[hx]at h;exact h
 ·symm;obtain⟨l,hp,h⟩:=Rv h;obtain⟨ef,_,hq,hr⟩:=Qv h;rcases hp with O|⟨i,O,ex⟩
  ·ext;exact hr _ _ hq
  ·ext;show(((match CA i with|.M1 l=>k_ (R8 (IV L f) e) l O0|_=>F2 74):M PV) σ).P1 P X';rw[ex];exact hr _ _ hq
theorem pM0(HE:z7 B g cl n ih)(HL:xY B g cl n ih):xY B g cl (n+1) (K6 FZ T ih):=by
 intro A G s N0 L O0 k Q4 Y5 lI A7 tc sc D2 a v W r R P X hif yW AS hkl nt D6 es gd er ia qP ht hr M0 PC JN;have D6:=D6.J9;have M0:(F1 zP (λ o=>match o with
  |A2=>W1 ()
  |E0 p=>F1 (aC FZ T ih tc p.1 O0) λ e1=>F1 (R5 (cE g cl k L Y5) e1) λ x=>F1 (Vq r x) λ _=>O_ (cE g cl k L Y5) tc p.2 r O0) R1).P1 P X:=M0
 have fW:∀b,BH W b->DF N0 L W b:=λ b q=> .L2 q;have fL:∀b,D5 N0 L b->DF N0 L W b:=λ b q=> .S2 q;have Jk:∀{G:Gh}{h:O1}{D:u0->Prop}{O0:PV},V5 B N0 D O0 G h->x8 B G h NA:=λ er=>by
  obtain⟨m,⟨o,es,ep,e,r⟩,_⟩:=lU;exact⟨kP.1,kP.2.1,kP.2.2,o,e⟩
 have sQ:∀{G:Gh}{h:O1}{D:u0->Prop}{O0:PV},V5 B N0 D O0 G h->∃m,eH NA m:=λ er=>by obtain⟨m,h,_⟩:=lU;exact⟨m,h⟩
 have gv:∀{G1 G2:Gh}{s1 s2:D1},A3 B N2 G1 s1 G2 s2->x8 B G1 pE NA->(∃m,s1.nZ NA m)->∃m,s2.nZ NA m:=λ{G1 G2 s1 s2} st ap ⟨m,hm⟩=>by
  obtain⟨o,Na,ep,e',d',_⟩:=id hm;exact⟨m,Pn hm λ o' e2=>N00 e2 ap.v9 (λ q=>q) ap.z (by rw[e']at e2;obtain O:=I3 e2;rw[d'];intro vs q;contradiction)⟩
 have err:∀{G1:Gh}{s1:D1}{BI:PV}{D:u0->Prop}{e:K0}{s2:D1},A3 B (DF N0 L W) G s G1 s1->V5 B N0 D BI G1 pE->Px B N2 A G1 s1 X e s2->xL R2 A N0 (λ e s'=>R (.LD e) s') e s2:=λ{G1 s1 BI D e s2} st D9 px=>by
  obtain⟨G2,i,I2,g2,xi,hX⟩:=px;obtain⟨L0,e0,cK,C9,hf,bG⟩:=es.HD;have ap2:=(Jk D9).K6 I2;have ns2:=gv I2 (Jk D9) (sQ D9);exact iY g2 xi C9 hf (λ s3 nC tb=>JN _ _ ⟨⟨G2,i,(gN (sL λ b q=>Q6)).U2 (nC.2.E5 λ _ q=>Q6),nC.1,xi,tb,hX,ap2.K6 nC.2⟩,gv nC.2 ap2 ns2⟩) O bG
 refine VM0 (mj es.wZ gd ia B00 ht M0 (λ s1 C2 g1 hf=>?_) λ s1 p u a' C2 g1 ru pa Wv hf=>?_)
 ·have D9:=Ga C2 Af M_;exact PC s1 ⟨⟨G,iC fW,g1,hf,Jk D9⟩,sQ D9⟩
 ·obtain⟨O,O⟩:A7=[]/\tc=cT L (cE g cl k L) Q4:=hif.KB id λ q=>by rw[q]at hf;exact hf.KB
  refine⟨O,?_⟩;have D9:=Ga C2 Af M_;have qQ:=iC fW;have pe:AI B G pE N0 W:=qP.K6 C2;have V1:V4 B (CF B N0 D0) (D5 N0 L) A (aC FZ T ih (cT L (cE g cl k L) Q4) p O0) (GK Q4 N0 u) G s1:=by
   have md:∀{D':u0->Prop}{m:M PV}{t':Y7 T7},(∀y,D' y->D0 y)->V4 B (CF B N0 D') (D5 N0 L) A m t' G s1->V4 B (CF B N0 D0) (D5 N0 L) A m t' G s1:=λ hD h P X M0=>
    V3 (h P X M0) (λ _ _ Z2=>by obtain⟨G2,a,I2,g2,R6,hp⟩:=Z2;exact⟨G2,a,I2,g2,V5.Lu R6 hD,hp⟩) λ _ _ px=>px
   rcases nt with⟨x,px,O⟩|⟨e,j,px,O⟩
   ·refine md (λ y hy=>?_) (T50 Fh g1 D9 ru);rcases AS y hy.1 with q|q
    ·exact q
    ·exact U3 (vT q) hy.2
   ·refine md (λ y hy=>?_) (Q90 es.wZ Fh g1 D9 ru);rcases AS y hy.1 with q|q
    ·exact q
    ·exact U3 q hy.2
  have hf1:=c50 nt (j6 hf) (X':=λ _ _=>J6);refine V3 (V1 _ _ hf1) ?_ λ _ _ Z2=>by obtain⟨_,_,_,_,_,h⟩:=Z2;exact u4
  intro _ s2 Z2;obtain⟨G2,V8,I2,g2,R6,MS⟩:=Z2;have c9:=pf (sL fL);have Xb:G5 B n A N0 L V8 G2 s2:=⟨D6,es,g2,R6⟩;refine V3 ((HE (k:=k) (e:=Y5) Xb).s8 MS λ G3 s3 x w U5 g3 rx KN=>?_) (λ _ _ h=>h) λ e s' px=>err c9 R6 px;have hr3:r<Ia.n:=W8 hr (X6 SB0 U5.Bf);have wH:G3.ρ r=Y2 r:=(U5.IE r (W8 hr SB0)).U2 (c9.IE r hr);rw[<-wH];refine oM0 g3 hr3 rx KN λ G4 s4 wA g4 hf4=>?_;have d50:=qn wA;have jv:A3 B (D5 N0 L) G s1 G4 s4:=UP (d50.E5 λ _ q=>Q6);have Lk:A3 B (DF N0 L W) G s G4 s4:=pf (jv.E5 fL);have ns4:=gv d50 (Jk R6) (sQ R6);have cne:∀y c,mF y=E0 c->¬DF N0 L W c:=λ y c hc q=>by
   rcases q with(q|⟨x,hx,_⟩)|q
   ·obtain⟨u,o,e,d⟩:=UX y c hc;obtain⟨m,⟨o',_,_,e',d',_⟩,_⟩:=lU;rw[q,e']at e;obtain O:=I3 e;rw[d']at d;contradiction
   ·exact yW x hx
   ·exact M_ y c hc q
  have yY:=er.reset hkl Lk cne ns4;have wok4:AI B G4 cB0 N0 W:=pe.K6 jv;have ia4:AH G4 cB0 a' v W:=YB0 jv λ b hb=>⟨ZB0 b hb,aB0 b hb⟩;have qM0:G4.ρ r=G3.ρ r:=wA.IE r hr3;rw[<-qM0];exact HL (.S2 ⟨O,O⟩) yW AS hkl nt D6 es g4 yY ia4 wok4 (λ q=>ht (pa▸q)) (W8 hr Lk.Bf) hf4 (λ s' h=>PC s' (RJ Lk)) λ e s' h=>JN e s' (RJ Lk)
end
end
section
open PyProof.Rows
variable{B:Bs}{A:Around}{G G':Gh}{s s':Shared}{F:Addr->Prop}{FZ:Nat->Bool}
variable{g:Nat->Option PV}{cl:Nat->Nat}{n:Nat}{ih:C5}{T:Tab}{cenv:Env}{L:Kinds}{env:PV}{k:Nat}
theorem e50{L3:tL}{w:N4}{a:It}{I:H1}{Q E:K0->D1->Prop}(x:vC G W0 a I)(h:Q (.J0 I) s):V0 (U4 L3 w) A (L_ (.J0 I)) Q E s:=by
 cases a using QP with
 |W5 l=>obtain⟨S4,j,vs,m,D7,_⟩:=x;exact wpAny_pyIter_tupleiter D7 h
 |DG i j=>exact wpAny_pyIter_listiter x.2 h
 |_=>exact jD
theorem rM0{L3:tL}{w:N4}{a:It}{v:K0}{W:P0 H1}{Q E:K0->D1->Prop}(x:AH G W0 a v W)(h:Q v s):V0 (U4 L3 w) A (L_ v) Q E s:=by
 cases a using QP with
 |W5 l=>obtain⟨I,O,_,x⟩:=x;exact e50 x h
 |DG i j=>obtain⟨I,O,_,x⟩:=x;exact e50 x h
 |jG a m=>obtain⟨I,O,_,x⟩:=x;exact wpAny_pyIter_rangeiter x h
 |v8 a b=>obtain⟨z,TI,TO,i1,i2,x,y,O,_,_,_,_,hz,_⟩:=x;exact aT0 hz h
 |OE m a=>
  obtain⟨e,i1,N8,O,_,he,_⟩:=x;have hT:fC (.J0 e) "enumerate":=⟨_,he,O⟩;refine At hT la (TC la hT V80 ?_ (U80 _));show V0 _ _ (U1 (.J0 e)) _ _ _;exact E2 ⟨_,O,"enumerate",_,hT,M80,h⟩
structure G_(B:Bs)(A:C6)(G:Gh)(s:D1)(C:H1)(G':Gh)(s':D1):Prop where
 st:A3 B N2 G s G' s'
 gd:J1 B A G' s'
 Uv:x8 B G' U6 C
 SB:F3 C=H0
 ns:∃m,Hg C m
theorem G_.we{C:H1}{h':O1}(x:G_ B A G s C G' s')(g0:J1 B A G s)(hs:WA C U6 h'):J1 B A G' {s' with B3:=h'}/\A3 B N2 G s G' {s' with B3:=h'}:=
 J1.we g0 x.gd x.st x.Uv x.SB (λ o e=>by
  obtain⟨m,o',es,ep,e',d,_⟩:=x.ns;rw[e']at e;obtain O:=I3 e;exact⟨es,ep,d⟩) hs
theorem sM0{A7:P0 C1}{f:C1->C}{t:C}:(A7=[]/\GV (R8 f A7) t=t)\/GV (R8 f A7) t=.M2:=by
 cases A7 using i5 with
 |B0=>exact .S2 ⟨O,O⟩
 |A0 e r=>
  refine .L2 ?_;cases hs:Q8 e with
  |I0=>rw[Rj hs];rfl
  |R0=>rw[Sj hs];rfl
theorem f50(BF:S7 B g)(HE:z7 B g cl n ih)(HL:xY B g cl n ih)(X:G5 B n A N0 L O0 G s){Y5 Q4 it:C1}{A7:P0 C1}{sc:cA}{D2:T3}(co:rQ L sc Q4){P:PV->K1->Prop}{Q:C0->K1->Prop}
  (M0:(F1 (KQ ih O0 (cI (cE g cl k L) L it)) (λ a=>pA 71 (EV a (cT w5 (cE g cl k w5) Q4)) (F1 (V9 (.M1 .B0)) λ r=>F1 (y5 71 (IY r)) λ i=>F1 (O_ (cE g cl k w5 Y5) (GV (R8 (cE g cl k w5) A7) (cT w5 (cE g cl k w5) Q4)) a i O0) λ _=>W1 r)) R1).P1 P Q)
  {cs:P0 (u0×H1)}(YF:∀x c,wf x=E0 c->mF x=E0 c)(xN:∀y∈w5,y.2=.j7->∃c,wf y.1=E0 c){RR:K0->H1->BM->D1->Prop}
  (PC:∀C N3 G' s' i,G_ B A G s C G' s'->H3 G' U6 (.J0 i) N3->P (.J0 i) wF->RR N3 C (.ok .W4) s')
  (JN:∀C N3 G' s' i e,G_ B A G s C G' s'->vG G' i e->zM G' U6 i->Q i wF->RR N3 C (.LD e) s'):
  V0 R2 A (Q5 it N0) (λ x s1=>V0 R2 A (L_ x) (λ v s2=>V0 R2 A (dR []) (λ N3 s3=>V0 R2 A (sb sc WL cs [] N0.uB H0 .H0 (E0 N0)) (λ yV s4=>
   JC R2 A (.compStart (.QB Y5 [⟨Q4,it,A7,0⟩] sc D2) 0 v N3 {yV with w8:=relabel sc N0}) (RR N3 yV.jp) s4) (Px B N2 A G s Q) s3) (Px B N2 A G s Q) s2) (Px B N2 A G s Q) s1) (Px B N2 A G s Q) s:=by
 refine R50 BF HE X M0 λ G1 s1 l h' tk a v W C2 g1 hk hW hl gw ia sA hf=>?_;obtain⟨ht,hf⟩:=ZX hf;have hf:(F1 (O_ (cE g cl k w5 Y5) (GV (R8 (cE g cl k w5) A7) (cT w5 (cE g cl k w5) Q4)) a TH O0) (λ _=>W1 (.J0 TH)) (G1.si (.M1 .B0))).P1 P Q:=hf;have av:LL G1 pE (l++mD) h':=Pd hk λ b hb=>hW b (hl b hb);have D9:=iL C2;have Yv:V5 B N0 D0 O0 (sN (l++mD)) h':=D9.qW av hk;have yW:∀y∈w5,y.2≠.l6:=λ y hy q=>by
  rcases(ie y hy).2 with h|h|h
  ·rw[h.1]at q;contradiction
  ·rw[h.1]at q;contradiction
  ·rw[h.1]at q;contradiction
 have g50:∀x,XC x≠E0 .l6:=λ x q=>yW _ (OU q) O;refine HH ?_ (by show 0<=aA;exact VN _);obtain⟨g2,I2,r2⟩:=gw.dR (l:=.B0) (vs:=[]) (tk:=tk) (k:=0) O;refine wpAny_newFunctionEnv yW (by intro y hy;simp at hy) (λ h3 Nk nv=>?_) bz;dsimp only at Nk nv ⊢;generalize hC:(gf {O2:=.U0 "list",H2:=H0,M3:=.W5 ([]:P0 K0).P8}).SC.L9=C at Nk nv ⊢;have hCs:C=NB+1:=by rw[<-hC,bD]
 have k3:∀b o,(gf {O2:=.U0 "list",H2:=H0,M3:=.W5 ([]:P0 K0).P8}).X5 b=E0 o->h3.X5 b=E0 o:=λ b o e=>nv.sK b o (by rw[<-hC];exact ZC (r9 e)) (vA _ _ _ _ e);obtain⟨g3,U5⟩:=IB0 (h':=h3) (tk:=tk) k3;have hC1:IJ C=H0:=by
  cases e:IJ C with
  |H0=>rfl
  |E0 o=>
   have:=r9 (hk C o e);rw[hCs]at J2;exact U3 J2 (lb (UN _))
 have hC0:F3 C=H0:=by
  cases e:F3 C with
  |H0=>rfl
  |E0 o=>obtain⟨o',e'⟩:=s00 C o e;rw[hC1]at e';contradiction
 have hCW:C∉W:=λ q=>by
  obtain⟨o,e⟩:=(sA C q).l9;have:=r9 e;rw[hCs]at J2;exact U3 J2 (lb (UN _))
 have apC:x8 B ((sN (l++mD)).SB (.M1 .B0) NB) h3 C:=LX g2 (by rw[<-hC];exact B8 _) (by obtain⟨o,_,_,e,_⟩:=Nk;exact⟨o,e⟩);have rD:=UP U5;have sD:=Yv.XZ (s:={s1 with B3:=h',B4:=tk}) rD;have erc:=nM0 (cs:=cs) (C:=C) co MI YF xN sD apC ⟨_,Nk⟩;have ia3:=ia.K6 (s:={s1 with B3:=h',B4:=tk}) rD λ b hb=>⟨sA b hb,λ q=>q⟩;have wok3:AI B ((sN (l++mD)).SB (.M1 .B0) NB) h3 (WP sc cs C N0) W:=by
  refine⟨λ b hb=>(sA b hb).K6 (s:={s1 with B3:=h',B4:=tk}) rD,hCW,λ y c hc q=>?_⟩;obtain⟨u,o,e,_⟩:=D9.ai y c (YF y c hc);rw[hW _ q]at e;contradiction
 have hF:∀b,DF (WP sc cs C N0) w5 W b->N2 b\/IJ b=H0:=λ b q=> .L2 (by
  rcases q with(q|⟨x,hx,_⟩)|q
  ·rw[q];exact hC1
  ·exact U3 hx (g50 x)
  ·exact hW b q)
 have O6:∀{G' s'},A3 B (DF (WP sc cs C N0) w5 W) ((sN (l++mD)).SB (.M1 .B0) NB) {s1 with B3:=h3,B4:=tk} G' s'->J1 B A G' s'->x8 B G' U6 C->(∃m,Hg C m)->G_ B A G s C (A00 mD) s':=λ{G' s'} st g ap ns=>by
  have stt:=(rD.E5 (F':=DF (WP sc cs C N0) w5 W) λ _ q=>Q6).U2 st;have Td:=dy (s:=s1) hk (λ b hb=>hW b (hl b hb)) stt hF;exact⟨FC Td,g.TF λ b hb=>by rw[stt.QU];exact UZ _ hb,ap.qW,hC0,ns⟩
 have loop:JC R2 A (.Nm (.QB Y5 [⟨Q4,it,A7,0⟩] sc D2) 0 v (.J0 NB) (WP sc cs C N0)) (RR (.J0 NB) C) {s1 with B3:=h3,B4:=tk}:=by
  have hr:TH<((sN (l++mD)).SB (.M1 .B0) NB).σ.n:=TD _;have wH:((sN (l++mD)).SB (.M1 .B0) NB).ρ TH=NB:=y3 O;have:=HL (k:=k) (Y5:=Y5) (lI:=it) (sc:=sc) (D2:=D2) (R:=RR (.J0 NB) C) (P:=λ _ σ=>(W1 (FB0 TH) σ).P1 P Q) (X:=Q) sM0 g50 co.F0 (λ x q=>Z50 co MI q) co.nt iD (mM0 co WB) g3 erc ia3 wok3 (W50 ht) hr (j6 hf)
   (λ s' he=>by
    obtain⟨⟨G',st,g',hp,ap⟩,ns⟩:=he;refine PC C _ (A00 mD) s' TH (O6 st g' ap ns) ⟨W8 hr IU.n,?_⟩ hp;show x6 NB=.J0 (Hf TH);rw[j_ _ hr,wH])
   (λ e s' he=>by
    obtain⟨⟨G',i,st,g',xi,tb,hx,ap⟩,ns⟩:=he;exact JN C _ (A00 mD) s' i e (O6 st g' ap ns) xi.qW tb hx)
  rw[wH]at J2;exact J2
 exact codeAny_compStart_list loop (rM0 ia3 loop)
theorem h50{Y5 Q4 it:C1}{A7:P0 C1}{sc:cA}{D2:T3}:clausesOf (.QB Y5 [⟨Q4,it,A7,0⟩] sc D2)=⟨Q4,it,A7,0⟩::[]:=O
theorem i50(co:rQ L sc Q4)(X:G5 B n A N0 L O0 G s){sc':cA}:∃cs:P0 (u0×H1),Bm sc N0=L4 cs/\(∀x c,wf x=E0 c->mF x=E0 c)/\∀y∈w5,y.2=.j7->∃c,wf y.1=E0 c:=
 Y50 λ y hy q=>by
  rcases(ie y hy).2 with h|h|h
  ·rw[h.1]at q;contradiction
  ·exact X.Vo _ (WB.l6 _ h.2.1)
  ·rw[h.1]at q;contradiction
theorem j50{C:H1}{i:C0}{e:K0}{Q:C0->K1->Prop}(g0:J1 B A G s)(x:G_ B A G s C G' s')(xi:vG G' i e)(tb:zM G' U6 i)(hx:Q i wF){F':H1->Prop}{h':O1}(hs:WA C U6 h'){yV:o6}{α:Type}:
  V0 R2 A (oW0 "comprehension.variables-let-go" e yV:Y7 α) (λ _ _=>J6) (Px B F' A G s Q) {s' with B3:=h'}:=by
 obtain⟨g1,C2⟩:=x.we g0 hs;obtain⟨c,d,vs,Tb,hv,h1⟩:=tb;have Rd:=xi;obtain⟨hi,O,_,c0,d0,wI⟩:=Rd;have Z6:Hf i≠C:=λ q=>x.Uv.v9 ⟨i,hi,by rw[wI];simp,q⟩;have hv':D3 (Hf i)=E0 ⟨c,d,.T5 vs,#[]⟩:=mW _ _ Z6 hv;refine S0 (N7 (s:={s' with B3:=h'}) hv' O h1 ?_);have O6:V0 R2 A (Re (.J0 (Hf i)) yV.HD>>=λ _=>(throw (.J0 (Hf i)):Y7 α)) (λ _ _=>J6) (Px B F' A G s Q) {s' with B3:=h'}:=
  S0 (gQ g1 xi λ O7 nC=>tZ ⟨G',i,(iC λ _ q=>Q6).U2 (nC.2.E5 λ _ q=>Q6),nC.1,xi,hx⟩)
 first
  |exact O6
  |exact S0 (E2 O6)
theorem tM0(BF:S7 B g)(HE:z7 B g cl n ih)(HL:xY B g cl n ih)(X:G5 B n A N0 L O0 G s){Y5 Q4 it:C1}{A7:P0 C1}{sc:cA}{D2:T3}(hc:OQ L sc Q4=I0):
  V4 B RV N2 A (Sq ih (cE g cl k w5 Y5) (cT w5 (cE g cl k w5) Q4) (R8 (cE g cl k w5) A7) (cI (cE g cl k L) L it) O0) (Q5 (.QB Y5 [⟨Q4,it,A7,0⟩] sc D2) N0) G s:=by
 intro P Q M0;have co:=X50 hc;obtain⟨cs,cz,YF,xN⟩:=i50 (sc':=sc) co X;have lQ:(F1 (KQ ih O0 (cI (cE g cl k L) L it)) (λ a=>pA 71 (EV a (cT w5 (cE g cl k w5) Q4)) (F1 (V9 (.M1 .B0)) λ r=>F1 (y5 71 (IY r)) λ i=>F1 (O_ (cE g cl k w5 Y5) (GV (R8 (cE g cl k w5) A7) (cT w5 (cE g cl k w5) Q4)) a i O0) λ _=>W1 r)) R1).P1 P Q:=M0;refine kS0 (xo:=H0) h50 (λ x=>Kv lQ x) cz bz (λ y hy q=>?_) (f50 (D2:=D2) BF HE HL X co lQ YF xN (λ C N3 G' s' i ce ra hp=>?_) λ C N3 G' s' i e ce xi tb hx=>?_)
 ·rcases(ie y hy).2 with h|h|h
  ·exact h.2
  ·rw[h.1]at q;contradiction
  ·rw[h.1]at q;contradiction
 ·obtain⟨m,hm⟩:=dz;refine⟨m,hm,λ h' hs=>?_⟩;obtain⟨g1,C2⟩:=ce.we ZB hs;exact .at (R:=RV) (a:=.J0 i) C2 g1 ra hp
 ·obtain⟨m,hm⟩:=dz;exact⟨m,hm,λ h' hs yV _=>j50 ZB ce xi tb hx hs⟩
end
section
open PyProof.Rows
variable{B:Bs}{A:Around}{G G':Gh}{s s':Shared}{F:Addr->Prop}{FZ:Nat->Bool}
variable{g:Nat->Option PV}{cl:Nat->Nat}{n:Nat}{ih:C5}{T:Tab}{cenv:Env}{L:Kinds}{env:PV}{k:Nat}
theorem uM0(ES:n9 N0 L):∀{prs:P0 (u0×K0)}{G:Gh}{s:D1}{Q:T7->D1->Prop}{E:K0->D1->Prop},J1 B A G s->V5 B N0 (λ y=>D0 y\/y∈vA0 (·.1)) O0 G W0->
  (∀p∈prs,A5 p.1=I0/\z6 L p.1=I0/\∃q,I4 (vc p.1) O0=E0 q/\H3 G W0 q p.2)->(∀s',A3 B (D5 N0 L) G s G s'->J1 B A G s'->V5 B N0 D0 O0 G U6->Q () s')->
  V0 R2 A (Sc (vA0 λ p=>rW N0 p.1) (vA0 (·.2))) Q E s:=by
 intro zq;induction zq with
 |B0=>
  intro G s Q E gd er hp h;exact E2 (h s (.M5 ..) gd (er.Lu λ y hy=>by simpa using hy))
 |A0 pq r ih=>
  intro G s Q E gd er hp h;obtain⟨x,v⟩:=pq;obtain⟨h1,h2,q,hq,rq⟩:=hp (x,v) (aE ..);show V0 R2 A (UH (xP (·.2)) (rW N0 x v)>>=λ _=>Sc (xP λ p=>rW N0 p.1) (xP (·.2))) Q E s;refine S0 (A8 (F90 (lV ES gd er h1 h2 rq (λ b q=>q) λ s' st g' DH=>?_)));have R6:V5 B N0 (λ y=>D0 y\/y∈xP (·.1)) O0 G U6:=by
   have Kg:∀y,I4 y (A6 (vc x) q O0)=I4 y O0:=λ y=>by
    rw[ZD];by_cases hy:y=vc x
    ·rw[y3 hy,hy,hq]
    ·rw[w3 hy]
   obtain⟨m,hn,hm⟩:=DH.ns;refine⟨⟨m,hn,λ y w h1 h2 h3 h4=>hm y w h1 (λ d=>h2 ?_) h3 (by rw[Kg];exact h4)⟩,λ y w h1 h3 h4=>DH.l6 y w h1 h3 (by rw[Kg];exact h4),DH.ai,DH.rU,DH.dP,DH.Nc,DH.Ws,DH.bA⟩;obtain⟨d,Z6⟩:=d;rcases d with d|d
   ·exact .S2 d
   ·rcases kA d with d|d
    ·exact U3 d Z6
    ·exact .L2 d
  exact ih g' R6 (λ p Ct=>by obtain⟨a,b,q,hq,rq⟩:=hp p (AC _ Ct);exact⟨a,b,q,hq,rq.K6 st⟩) λ O7 SA vJ vM0=>h O7 (gN SA) vJ vM0
theorem wM0{ts:P0 C1}{l e:PV}(a:iT L ts l O0 e):∀{vs:P0 K0}{G:Gh}{h:O1},A4 G h l vs->
  (XA V7).M7=R7/\(∀y,vc y≠0->y∉XA V7->I4 (vc y) e=I4 (vc y) O0)/\((XA V7).JD->∀p∈(XA V7).v8 vs,A5 p.1=I0/\z6 L p.1=I0/\∃q,I4 (vc p.1) e=E0 q/\H3 G h q p.2):=by
 induction a with
 |B0=>intro vs G h r;have r:vs=[]:=r;subst r;exact⟨O,λ _ _ _=>O,λ _ p hp=>(nomatch hp)⟩
 |A0 x D2 ts p q O0 e h1 h2 _ ih=>
  intro vs G h ⟨v,rC,ev,rp,rq⟩;subst ev;obtain⟨i2,i3,i4⟩:=ih rq;obtain⟨_,_,n3⟩:=DL h1;show(x::XA V7).M7=_/\(∀y,_->y∉x::XA V7->_)/\((x::XA V7).JD->∀pr∈(x,v)::(XA V7).v8 rC,_);refine⟨H6 LH i2,λ y hy hn=>?_,λ nd pr Ud=>?_⟩
  ·rw[uD,tN]at hn;rw[i3 y hy hn.2,ZD,w3 λ q=>hn.1 (mO q hy)]
  ·rw[JP]at nd;rcases kA Ud with O|Ud
   ·exact⟨h1,h2,p,by rw[i3 x n3 nd.1,ZD,y3 O],rp⟩
   ·exact i4 nd.2 pr Ud
theorem xM0{α β:Type}{f h:α->Q1 β}(hf:∀a b,f a=E0 b->h a=E0 b):∀{l:P0 α},(l.UV f).M7=KJ->l.UV f=l.UV h:=by
 intro zq;induction zq with
 |B0=>
  intro _;exact O
 |A0 a r ih=>
  intro e;have lH:∀l:P0 α,(l.UV f).M7<=KJ:=λ l=>P0.length_filterMap_le f l;cases ha:f a with
  |H0=>
   rw[P0.filterMap_cons_none ha]at e;have:=lH r;rw[e,GJ]at J2;omega
  |E0 b=>
   rw[S80 ha]at e ⊢;rw[S80 (hf a b ha),ih (by simpa using e)]
theorem yM0:∀{l:P0 u0},mG l=I0->l.JD:=by
 intro zq;induction zq with
 |B0=>
  intro _;exact ub
 |A0 x r ih=>
  intro h;have h:(!(r.K4 (· ==x))&&mG r)=I0:=h;simp only[N5,FP,E90,MU]at h;exact JP.C8 ⟨λ q=>h.1 x q O,ih h.2⟩
theorem zM0(ts vs:P0 C1)(j j':C0)(p p':T3):∃(nm:C1->Q1 u0) (sd:C1->I1),WW [.U9 ts j p] (.U9 vs j' p') N0=(do
   if !(cN==2||cN==3)||R7 !=cN||c90 !=.sF then return H0
   if vs.K4 sd then return H0
   if(XA nm).M7 !=cN||(XA nm).eraseDups.M7 !=(XA nm).M7 then return H0
   if Fn (foldedForSure 8)then return H0
   if Fn (ut 8)then d90 "assign.tuple-of-constant-expressions:order-of-the-stores"
   return E0 (XA nm))/\∀a x,nm a=E0 x->V7 a=E0 x/\CB x=E0 .G7:=by
 refine⟨_,_,O,λ a x h=>?_⟩;have q:=Th a;cases a using j9 with
 |u3 y p=>
  have h:(if(CB y==E0 .G7&&Ea==(gV0 (·.D2.YH)).jI 0)=I0 then E0 y else H0)=E0 x:=h;by_cases hc:(CB y==E0 .G7&&Ea==(gV0 (·.D2.YH)).jI 0)=I0
  ·rw[y3 hc]at h;obtain O:=I3 h;rw[N5]at hc;exact⟨O,dD hc.1⟩
  ·rw[w3 hc]at h;contradiction
 |_=>contradiction
theorem AN0{ts vs:P0 C1}{j j':C0}{p p':T3}(h:(!(Fn (ut 8)))=I0):WW [.U9 ts j p] (.U9 vs j' p') N0=L4 H0\/
  ∃nm:C1->Q1 u0,WW [.U9 ts j p] (.U9 vs j' p') N0=L4 (E0 (XA nm))/\(XA nm).M7=cN/\∀a x,nm a=E0 x->V7 a=E0 x/\CB x=E0 .G7:=by
 have h8:Fn (ut 8)=R0:=by simpa using h
 obtain⟨nm,sd,e,hn⟩:=zM0 (N0:=N0) ts vs j j' p p';rw[e]
 split
 ·exact .S2 O
 ·split
  ·exact .S2 O
  ·split
   ·exact .S2 O
   ·rename_i fH
    split
    ·exact .S2 O
    ·rw[h8];rw[OV0,bV0,az,tN,r90.not_not]at fH;exact .L2 ⟨nm,O,fH.1,hn⟩
def Wd(e:C1):I1:=match e with
 |.U9 ..=>I0
 |_=>R0
def qv(e:C1):I1:=match e with
 |.P0 ..=>I0
 |_=>R0
theorem BN0{t e:C1}(h:Wd t=R0)(hl:qv t=R0):WW [t] e N0=L4 H0:=by cases t using j9<;>first|rfl|(contradiction;done)|(cases hl;done)
theorem CN0{ts:P0 C1}{j:C0}{p:T3}{e:C1}(h:Wd e=R0):WW [.U9 ts j p] e N0=L4 H0:=by cases e using j9<;>first|rfl|contradiction
inductive uv:C1->I1->Prop
 |no e:uv e R0
 |F6 ts j p:uv (.U9 ts j p) I0
theorem l50(e:C1):uv e (Wd e):=by cases e using j9<;>first|exact .F6 _ _ _|exact .no _
theorem DN0{t e:C1}(h:uK t e=I0)(hl:qv t=R0):WW [t] e N0=L4 H0\/
  ∃ts j p,t=.U9 ts j p/\WW [t] e N0=L4 (E0 (XA V7))/\∀x∈XA V7,CB x=E0 .G7:=by
 symm;have q1:=l50 t;generalize h1:Wd t=b at q1;cases q1 with
 |no=>
  ext;exact .S2 (BN0 h1 hl)
 |F6 ts j p=>
  have q2:=l50 e;generalize h2:Wd e=b at q2;cases q2 with
  |no=>
   ext;exact .S2 (CN0 h2)
  |F6 vs j' p'=>
   rcases AN0 (ts:=ts) (j:=j) (p:=p) (j':=j') (p':=p') (N0:=N0) h with q|⟨nm,q,fH,m50⟩
   ·ext;exact .S2 q
   ·have e1:XA nm=XA V7:=xM0 (h:=V7) (λ a b hab=>(m50 a b hab).1) fH;ext;refine .L2 ⟨ts,j,p,O,by rw[q,e1],λ x hx=>?_⟩;symm;rw[<-e1]at hx;obtain⟨a,_,ha⟩:=QT0 hx;ext;exact(m50 _ _ ha).2
theorem EN0{α β:Type}:∀{l:P0 α}{m:P0 β},KJ=m.M7->(l.v8 m).Y4 (·.1)=l/\(l.v8 m).Y4 (·.2)=m:=by
 intro l;induction l with
 |B0=>
  intro m h;obtain O:=QQ PJ;exact⟨O,O⟩
 |A0 a l ih=>
  intro m h;cases m using i5 with
  |B0=>contradiction
  |A0 b m=>
   obtain⟨h1,h2⟩:=ih (mZ h);exact⟨H6 (P0.A0 a) h1,H6 (P0.A0 b) h2⟩
theorem FN0{t:C1}{p:PV}{σ:K1}{P:PV->K1->Prop}{Q:C0->K1->Prop}(M0:(aC FZ T ih (cT L (cE g cl k L) t) p O0 σ).P1 P Q):qv t=R0/\Q8 t=I0/\(NU [t] N0).Y4 (·.2)=[GK t N0]:=by
 cases t using j9<;>first|exact C4|exact⟨O,O,O⟩
theorem Pk(CT:aD B T)(ON:AF)(H:z7 B g cl n ih)(X:G5 B n A N0 L O0 G s){t e:C1}(ht:uK t e=I0)(hd:mG (cF t)=I0){p:PV}{v:K0}(r:H3 G W0 p v){P:PV->K1->Prop}{Q:C0->K1->Prop}
  (M0:(aC FZ T ih (cT L (cE g cl k L) t) p O0 R1).P1 P Q):
  V0 R2 A (do assignStores N0 v (<-WW [t] e N0) ((NU [t] N0).Y4 (·.2))) (λ f s'=>f=.W4/\Po B (CF B N0 D0) (D5 N0 L) A G s P () s') (Px B (D5 N0 L) A G s Q) s:=by
 obtain⟨hl,QC,he⟩:=FN0 (N0:=N0) M0;rcases DN0 (N0:=N0) ht hl with q|⟨ts,j,D2,O,q,AS⟩
 ·rw[q];refine S0 (E2 ?_);show V0 R2 A (do BA0 v ((NU [t] N0).Y4 (·.2));L4 OJ.W4) _ _ s;rw[he];exact S0 (V3 (Tv CT ON H X r P Q M0) (λ _ s' po=>E2 ⟨O,po⟩) λ _ _ px=>px)
 ·rw[q];refine S0 (E2 ?_);show V0 R2 A (do
   rule "assign.swapped-stores"
   let H5 <-Z90 v (XA V7).M7 H0
   Sc ((XA V7).YL.Y4 λ n=>rW N0 n) H5.YL
   L4 OJ.W4) _ _ s
  refine S0 (RP ?_);obtain⟨pl,hp,M0⟩:=Rv M0;obtain⟨b,l,vs,O,Sv,rl⟩:=U50 ZB r hp;obtain⟨ef,V1,hP,_⟩:=Qv M0;obtain⟨fH,n50,jy⟩:=wM0 V1 rl;have nd:(XA V7).JD:=by rw[<-XM0 (j:=j) (D2:=D2)];exact yM0 hd
  have jy:=jy nd;obtain⟨z1,z2⟩:=EN0 fH;have un:V0 R2 A (Z90 (.J0 l) (XA V7).M7 H0) (λ H5 s'=>H5=vs/\∃h',(∀b o,F3 b=E0 o->D3 b=E0 o)/\s'={s with B3:=h'}) (Px B (D5 N0 L) A G s Q) s:=by
   rw[fH,show R7=vs.GU by simp];exact S50 xn Sv λ h' hk=>⟨by trivial,h',hk,O⟩
  refine S0 (V3 un (λ H5 s' zz=>EO zz λ e1 zz=>o_ zz λ h' hk e2=>?_) λ _ _ px=>px);subst e1;subst e2;obtain⟨g1,C2⟩:=X.rn (h':=h') (tk:=X4) hk;have qQ:=iC (F':=D5 N0 L) λ _ q=>Q6;have D9:V5 B N0 (λ y=>D0 y\/y∈((XA V7).v8 H5).YL.Y4 (·.1)) ef G h':=by
   have e0:=iL C2;obtain⟨m,hn,hm⟩:=e0.ns;have hmem:∀y,y∈((XA V7).v8 H5).YL.Y4 (·.1)↔y∈XA V7:=λ y=>by rw[du,vU0,z1]
   refine⟨⟨m,hn,λ y w h1 h2 h3 h4=>hm y w h1 (λ d=>h2 (.S2 d)) h3 ?_⟩,λ y w h1 h3 h4=>e0.l6 y w h1 h3 ?_,e0.ai,e0.rU,e0.dP,e0.Nc,e0.Ws,e0.bA⟩
   ·rw[<-n50 y h3 λ q=>h2 (.L2 ((hmem y).C8 q))];exact h4
   ·rw[<-n50 y h3 λ q=>by
     rw[AS y q]at h1;rcases h1 with h1|h1<;>cases h1]
    exact h4
  have em:(XA V7).YL.Y4 (λ n=>rW N0 n)=((XA V7).v8 H5).YL.Y4 λ p=>rW N0 p.1:=by
   rw[du,du];congr 1;rw[<-z1,P0.map_map,z1];rfl
  have ev:H5.YL=((XA V7).v8 H5).YL.Y4 (·.2):=by rw[du,z2]
  rw[em,ev];refine S0 (uM0 MI g1 D9 (λ pr Ud=>?_) λ s' st g' DH=>E2 ⟨O,.at (R:=CF B N0 D0) (a:=ef) (pf st) g' DH hP⟩);obtain⟨a1,a2,q,hq,rq⟩:=jy pr (vU0.mp Ud);exact⟨a1,a2,q,hq,rq.K6 C2⟩
end
section
open PyProof.Rows
variable{B:Bs}{A:Around}{G G':Gh}{s s':Shared}{F:Addr->Prop}{FZ:Nat->Bool}
variable{g:Nat->Option PV}{cl:Nat->Nat}{n:Nat}{ih:C5}{T:Tab}{cenv:Env}{L:Kinds}{env:PV}{k:Nat}
def vv(B:Bs)(g:C0->Q1 PV)(cl:C0->C0)(n:C0)(E:C5):Prop:=
 ∀{A:C6}{G:Gh}{s:D1}{N0:o6}{L:z5}{O0:PV}{k:C0}{Y5:C1}{gs:P0 vk}{sc:cA}{D2 xp:T3}{x:u0}{P:PV->K1->Prop}{Q:C0->K1->Prop},
  G5 B n A N0 L O0 G s->((A5 x&&z6 L x)=I0\/∀e σ,¬P e σ)->(E.B6 (cE g cl k L (.QB Y5 gs sc D2)) O0 R1).P1 (λ p σ=>P (A6 (vc x) p O0) σ) Q->
  V0 R2 A (evalThenUse (.QB Y5 gs sc D2) N0 (λ v=>BA0 v [GK (.u3 x xp) N0])) (Po B (CF B N0 D0) (D5 N0 L) A G s P) (Px B (D5 N0 L) A G s Q) s
theorem GN0(BF:S7 B g)(HE:z7 B g cl n ih)(HL:xY B g cl n ih):vv B g cl (n+1) (K6 FZ T ih):=by
 intro A G s N0 L O0 k Y5 gs sc D2 xp x P Q X1 pX M0;have X:=Y00;have M0:(sE FZ T ih (cE g cl k L (.QB Y5 gs sc D2)) O0 R1).P1 (λ p σ=>P (A6 (vc x) p O0) σ) Q:=M0;induction k using TL with
 |K9=>exact C4
 |J9 k=>
  cases hg:Xh gs with
  |H0=>
   have M0:(sE FZ T ih (JV (cE g cl k) L Y5 gs sc) O0 R1).P1 (λ p σ=>P (A6 (vc x) p O0) σ) Q:=M0;unfold JV at M0;rw[hg]at M0;exact C4
  |E0 c=>
   obtain⟨Q4,it,A7⟩:=c;have B5:(sE FZ T ih (bif OQ L sc Q4 then .J7 (cE g cl k w5 Y5) (cT w5 (cE g cl k w5) Q4) (R8 (cE g cl k w5) A7) (cI (cE g cl k L) L it)else .M2) O0 R1).P1 (λ p σ=>P (A6 (vc x) p O0) σ) Q:=by
    have M0:(sE FZ T ih (JV (cE g cl k) L Y5 gs sc) O0 R1).P1 (λ p σ=>P (A6 (vc x) p O0) σ) Q:=M0;unfold JV at M0;rw[hg]at M0;exact M0
   obtain O:=O20 hg;cases hc:OQ L sc Q4 with
   |R0=>rw[hc]at B5;exact cP
   |I0=>
    rw[hc]at B5;have M0:=B5;have M0:(Sq ih (cE g cl k w5 Y5) (cT w5 (cE g cl k w5) Q4) (R8 (cE g cl k w5) A7) (cI (cE g cl k L) L it) O0 R1).P1 (λ p σ=>P (A6 (vc x) p O0) σ) Q:=M0;have co:=X50 hc;obtain⟨cs,cz,YF,xN⟩:=i50 (sc':=sc) co X;have lQ:(F1 (KQ ih O0 (cI (cE g cl k L) L it)) (λ a=>pA 71 (EV a (cT w5 (cE g cl k w5) Q4)) (F1 (V9 (.M1 .B0)) λ r=>F1 (y5 71 (IY r)) λ i=>F1 (O_ (cE g cl k w5 Y5) (GV (R8 (cE g cl k w5) A7) (cT w5 (cE g cl k w5) Q4)) a i O0) λ _=>W1 r)) R1).P1 (λ p σ=>P (A6 (vc x) p O0) σ) Q:=M0;have nm:∀{e:K0}{s':D1},Px B N2 A G s Q e s'->Px B (D5 N0 L) A G s Q e s':=λ Z2=>by obtain⟨G2,i,I2,g2,xi,hp⟩:=Z2;exact⟨G2,i,sL λ _ q=>Q6,g2,xi,hp⟩
    refine S0 (V3 (Q:=λ _=>Po B (CF B N0 D0) (D5 N0 L) A G s P ()) (E:=Px B (D5 N0 L) A G s Q) ?_ (λ _ _ h=>E2 h) λ _ _ h=>h);refine kS0 (E:=Px B (D5 N0 L) A G s Q) (h50 (Y5:=Y5) (Q4:=Q4) (it:=it) (A7:=A7) (sc:=sc) (D2:=D2)) (λ x=>Kv lQ x) cz bz (λ y hy q=>?_)
     (V3 (f50 (RR:=compPost R2 A (Px B (D5 N0 L) A G s Q) (E0 (λ v=>BA0 v [GK (.u3 x xp) N0])) (λ _=>Po B (CF B N0 D0) (D5 N0 L) A G s P ())) (D2:=D2) BF HE HL X co lQ YF xN (λ C N3 G' s' i ce ra hp=>?_) λ C N3 G' s' i e ce xi tb hx=>?_)
      (λ v1 s1 h1=>V3 h1 (λ v2 s2 h2=>V3 h2 (λ v3 s3 h3=>V3 h3 (λ v4 s4 h4=>h4) λ _ _=>nm) λ _ _=>nm) λ _ _=>nm) λ _ _=>nm)
    ·rcases(ie y hy).2 with h|h|h
     ·exact h.2
     ·rw[h.1]at q;contradiction
     ·rw[h.1]at q;contradiction
    ·show V0 R2 A (GK (.u3 x xp) N0 N3) _ _ s';have DH:=iL ce.st;have pX:(A5 x&&z6 L x)=I0:=pX.KB id λ q=>U3 hp (q _ _);simp only[N5]at pX;obtain⟨hx,hs⟩:=pX;refine q80 (lV MI ce.gd DH hx hs ra (λ b q=>q) λ s2 I2 g2 R6=>?_);obtain⟨m,hm⟩:=dz;have Vv:¬D5 N0 L C:=λ q=>by
      rcases q with q|⟨y,_,hy⟩
      ·obtain⟨m,⟨o,_,_,e,_⟩,_⟩:=X.lU;rw[<-q,C00]at e;contradiction
      ·obtain⟨u,o,e,_⟩:=X.UX y C hy;rw[C00]at e;contradiction
     have yo:s2.nZ C m:=by
      obtain⟨o,es,ep,e,d,_⟩:=id hm;exact Pn hm λ o' e'=>I2.M3 e' ce.Uv.v9 Vv ce.Uv.z (by rw[e]at e';obtain O:=I3 e';rw[d];intro vs q;contradiction)
     refine⟨m,yo,λ h' yJ=>?_⟩;obtain⟨g3,U5⟩:=J1.we ZB g2 ((ce.Qn (F':=D5 N0 L) λ _ q=>Q6).U2 I2) (ce.Uv.K6 I2) C00 (λ o e=>by
      obtain⟨o',es,ep,e',d,_⟩:=yo;rw[e']at e;obtain O:=I3 e;exact⟨es,ep,d⟩) yJ
     have Z6:C≠NA:=λ q=>Vv (.S2 q);have sD:V5 B N0 D0 (A6 (vc x) (.J0 i) O0) G' h':=by
      have R6:=R6.Lu (D':=D0) λ y hy=>hy.1;have kv:∀{p:PV}{v:K0},H3 G' TN p v->H3 G' h' p v:=λ r=>WI (.M5 G') λ b vs n _ e=>lL _ _ (λ q=>by
       subst q;obtain⟨o',es,ep,e',d,_⟩:=yo;rw[e']at e;obtain O:=I3 e;contradiction) e
      have kc:∀{y c u},mF y=E0 c->s2.ld c u->m00 c u:=λ{y c u} hl Z2=>by obtain⟨o,e,d⟩:=Z2;exact⟨o,lL _ _ (λ q=>by
       subst q;obtain⟨u,o,e,_⟩:=X.UX y c hl;rw[C00]at e;contradiction) e,d⟩
      obtain⟨m',JM,kX⟩:=R6.ns;exact⟨⟨m',JM.de yJ (H9 Z6),λ y v h1 h2 h3 h4=>by obtain⟨u,hu,r⟩:=kX y v h1 h2 h3 h4;exact⟨u,hu,kv r⟩⟩,
       λ y v h1 h3 h4=>by obtain⟨c,u,hl,hc,r⟩:=R6.l6 y v h1 h3 h4;exact⟨c,u,hl,kc hl hc,kv r⟩,λ y c hl=>by obtain⟨u,hu⟩:=R6.ai y c hl;exact⟨u,kc hl hu⟩,R6.rU,R6.dP,R6.Nc,R6.Ws,R6.bA⟩
     exact .at (R:=CF B N0 D0) (a:=A6 (vc x) (.J0 i) O0) U5 g3 sD hp
    ·obtain⟨m,hm⟩:=dz;exact⟨m,hm,λ h' hs yV _=>j50 ZB ce xi tb hx hs⟩
end
section
open PyProof.Rows
variable{B:Bs}{A:Around}{G G':Gh}{s s':Shared}{F:Addr->Prop}{FZ:Nat->Bool}
variable{g:Nat->Option PV}{cl:Nat->Nat}{n:Nat}{ih:C5}{T:Tab}{cenv:Env}{L:Kinds}{env:PV}{k:Nat}
theorem Px.nm{Q:C0->K1->Prop}{e:K0}{s':D1}(h:Px B N2 A G s Q e s'):Px B F A G s Q e s':=by obtain⟨G2,i,I2,g2,xi,hp⟩:=h;exact⟨G2,i,sL λ _ q=>Q6,g2,xi,hp⟩
theorem yv{t e:C1}{YH:C0}(h:dM t e=I0):pv [t] e YH N0=L4 R0\/(pv [t] e YH N0=L4 I0/\(∃Y5 gs sc D2,e=.QB Y5 gs sc D2)/\∃x xp,t=.u3 x xp):=by
 cases e using j9 with
 |QB Y5 gs sc D2=>
  cases t using j9 with
  |u3 x xp=>
   have e0:pv [.u3 x xp] (.QB Y5 gs sc D2) YH N0=L4 (c90==.sF&&CB x==E0 .G7&&xp.YH==(C1.QB Y5 gs sc D2).D2.YH&&!(w5.K4 λ(n,k)=>n==x&&(k==.G7||k==.l6))):=O;rw[e0];cases(c90==.sF&&CB x==E0 .G7&&xp.YH==(C1.QB Y5 gs sc D2).D2.YH&&!(w5.K4 λ(n,k)=>n==x&&(k==.G7||k==.l6)))using o7 with
   |I0=>exact .L2 ⟨O,⟨_,_,_,_,O⟩,_,_,O⟩
   |R0=>exact .S2 O
  |_=>exact .S2 O
 |VA0=>contradiction
 |GA0=>contradiction
 |_=>exact .S2 O
noncomputable abbrev uO(B:Bs)(A:C6)(N0:o6)(L:z5)(m:M Fl)(st:P0 P5)(G:Gh)(s:D1):Prop:=V4 B (YE B N0) (D5 N0 L) A m (mC st N0) G s
theorem HN0(CT:aD B T)(ON:AF)(HE:z7 B g cl n ih)(HU:vv B g cl n ih)(HS:xJ B g cl n ih)(X:G5 B n A N0 L O0 G s){t e:C1}{J4:P0 P5}{D2:T3}{k1 k2 k3:C0}
  (h1:dM t e=I0)(h2:mG (cF t)=I0)(h3:uK t e=I0):uO B A N0 L (C20 FZ T ih (cT L (cE g cl k1 L) t) (cE g cl k2 L e) (cS g cl k3 L J4) O0) (.PF [t] e D2::J4) G s:=by
 intro P Q M0;have M0:(F1 (R5 (cE g cl k2 L e) O0) (λ v=>F1 (aC FZ T ih (cT L (cE g cl k1 L) t) v O0) λ W9=>cC (cS g cl k3 L J4) W9) R1).P1 P Q:=M0;refine AB ?_;refine S0 (BB ?_);rcases yv (N0:=N0) (YH:=i_) h1 with q|⟨q,⟨Y5,gs,sc,p2,O⟩,x,xp,O⟩
 ·rw[q];refine S0 (E2 ?_);refine SI PG ?_;refine S0 (V3 ((HE X).s8 M0 λ G1 s1 a v C2 g1 ra E4=>?_) (λ _ _ h=>h) λ _ _ h=>Ao)
  ·exact V3 (Pk CT ON HE (KC C2 g1) h3 h2 ra (j6 E4)) (λ f s2 ⟨hf,G2,V8,I2,g2,R6,hp⟩=>by
    subst hf;exact(HS (k:=k3) (st:=J4) iD WB g2 R6).I8 ((iC λ _ q=>Q6).U2 I2) hp) λ e s2 px=>Z00 (iC λ _ q=>Q6)
 ·rw[q];refine S0 (E2 ?_);refine wif_pos O ?_;symm;change(F1 (R5 (cE g cl k2 L (.QB Y5 gs sc p2)) O0) (λ v=>F1 (aC FZ T ih (bif A5 x&&z6 L x then .F0 (vc x)else .M2) v O0) λ W9=>cC (cS g cl k3 L J4) W9) R1).P1 P Q at M0;cases hx:A5 x&&z6 L x with
  |R0=>
   rw[hx]at M0;have hu:=HU (xp:=xp) (x:=x) (P:=λ _ _=>J6) (Q:=Q) X (.L2 λ _ _ q=>q) (j6 M0);ext;exact S0 (V3 hu (λ _ s2 Z2=>by obtain⟨G2,V8,I2,g2,R6,hp⟩:=Z2;exact U00) λ _ _ h=>h)
  |I0=>
   rw[hx]at M0;have hu:=HU (xp:=xp) (P:=λ W9 σ=>(cC (cS g cl k3 L J4) W9 σ).P1 P Q) (Q:=Q) X (.S2 hx) (j6 M0);ext;refine S0 (V3 hu (λ _ s2 ⟨G2,V8,I2,g2,R6,hp⟩=>E2 ?_) λ _ _ h=>h);exact(HS (k:=k3) (st:=J4) iD WB g2 R6).I8 I2 hp
end
section
open PyProof.Rows
variable{B:Bs}{A:Around}{G G':Gh}{s s':Shared}{F:Addr->Prop}{FZ:Nat->Bool}
variable{g:Nat->Option PV}{cl:Nat->Nat}{n:Nat}{ih:C5}{T:Tab}{cenv:Env}{L:Kinds}{env:PV}{k:Nat}
theorem o50(X:G5 B n A N0 L O0 G s):Nw N0=R0:=by
 unfold Nw;rw[WB.fn];rfl
theorem IN0(HE:z7 B g cl n ih)(HS:xJ B g cl n ih)(X:G5 B n A N0 L O0 G s){e:C1}{J4:P0 P5}{D2:T3}{k2 k3:C0}(hs:DW0 e H0 i_ N0=L4 R0):
  uO B A N0 L (F1 (R5 (cE g cl k2 L e) O0) λ _=>cC (cS g cl k3 L J4) O0) (.C1 e D2::J4) G s:=by
 intro P Q M0;refine AB ?_;refine G90 ?_ (o50 X) hs;refine V3 ((HE X).s8 M0 λ G1 s1 a v C2 g1 ra E4=>?_) (λ _ _ h=>h) λ _ _ h=>Ao;exact(HS (k:=k3) (st:=J4) iD WB g1 (iL C2)).I8 (iC λ _ q=>Q6) E4
theorem JN0(HE:z7 B g cl n ih)(X:G5 B n A N0 L O0 G s){e:C1}{J4:P0 P5}{D2:T3}{k2:C0}:
  uO B A N0 L (F1 (R5 (cE g cl k2 L e) O0) λ v=>W1 (.U1 v O0)) (.WK (E0 e) D2::J4) G s:=by
 intro P Q M0;refine AB (Hb ?_);refine V3 ((HE X).s8 M0 λ G1 s1 a v C2 g1 ra E4=>?_) (λ _ _ h=>h) λ _ _ h=>Ao;exact⟨G1,.U1 a O0,iC λ _ q=>Q6,g1,ra,E4⟩
theorem KN0(X:G5 B n A N0 L O0 G s){J4:P0 P5}{D2:T3}:uO B A N0 L (W1 (.cB O0)) (.Ez D2::J4) G s:=λ P Q M0=>by
 refine AB ?_;exact S0 (BB (E2 ⟨G,.cB O0,.M5 ..,ZB,VR,M0⟩))
theorem LN0(X:G5 B n A N0 L O0 G s){J4:P0 P5}{D2:T3}:uO B A N0 L (W1 (.bB O0)) (.vx D2::J4) G s:=λ P Q M0=>by
 refine AB ?_;exact S0 (BB (E2 ⟨G,.bB O0,.M5 ..,ZB,VR,M0⟩))
set_option backward.match.sparseCases true in
theorem MN0(HT:kQ B g cl n ih)(HS:xJ B g cl n ih)(X:G5 B n A N0 L O0 G s){t:C1}{a b J4:P0 P5}{D2:T3}{k1 k2 k3 k4:C0}:
  uO B A N0 L (sIf ih (cE g cl k1 L t) (cS g cl k2 L a) (cS g cl k3 L b) (cS g cl k4 L J4) O0) (.If t a b D2::J4) G s:=by
 intro P Q M0;have M0:(F1 (OC ih (cE g cl k1 L t) O0) (λ c=>F1 (UI c (cC (cS g cl k2 L a) O0) (cC (cS g cl k3 L b) O0)) λ f=>tK ih (cS g cl k4 L J4) f) R1).P1 P Q:=M0;refine AB (LA0 ?_);refine V3 ((HT X).s8 M0 λ G1 s1 c b' C2 g1 rb E4=>?_) (λ _ _ h=>h) λ _ _ h=>Ao;cases rb;have qQ:=iC (F':=D5 N0 L) λ _ q=>Q6;have D9:=iL C2;have ND:∀{k5:C0}{bl:P0 P5},(F1 (cC (cS g cl k5 L bl) O0) (λ f=>tK ih (cS g cl k4 L J4) f) qF).P1 P Q->
   V0 R2 A (mC bl N0) (λ f s'=>match f with|.W4=>V0 R2 A (mC J4 N0) (Po B (YE B N0) (D5 N0 L) A G s P) (Px B (D5 N0 L) A G s Q) s'|f=>Po B (YE B N0) (D5 N0 L) A G s P f s') (Px B (D5 N0 L) A G s Q) s1:=λ{k5 bl} h=>by
  refine(HS (k:=k5) (st:=bl) iD WB g1 D9).NE qQ h λ G2 s2 fl f I2 c9 g2 rf B5=>?_;have O6:=Sd (k:=k4) HS iD WB I2 g2 rf B5;cases f<;>exact O6
 cases c using o7 with
 |I0=>exact ND E4
 |R0=>exact ND E4
end
section
section
noncomputable abbrev EF:P0 K0:=[.U0 "Exception",.U0 "BaseException",.U0 "object"]
structure XK where
 nm:u0
 q:u0
 C:H1
 N:H1
 bs:P0 K0
 sn:P0 u0
 w0:P0 K0
 ab:I1
 YJ:Q1 I1
 dd:Q1 H1
 k0:Q1 K0
 k1:Q1 K0
 k2:Q1 K0
 k3:Q1 K0
 k5:Q1 K0
 mN:u0->Q1 K0
structure zA(h:O1)(k l:XK):Prop where
 atC:C3 y4=E0 (PP k.nm k.q y4 k.N k.bs (.J0 oH::EF) I0 k.sn k.w0 k.ab k.YJ k.dd k.k0 k.k1 k.k2 k.k3 k.k5 "Exception.__new__")
 atL:C3 oH=E0 (PP l.nm l.q oH l.N l.bs EF I0 l.sn l.w0 l.ab l.YJ l.dd l.k0 l.k1 l.k2 l.k3 l.k5 "Exception.__new__")
 nc:eH k.N ZG
 nl:eH l.N gH
theorem zA.MC{h h':O1}{k l:XK}(x:zA h k l)(kp:∀b o,C3 b=E0 o->D3 b=E0 o):zA h' k l:=
 ⟨kp _ _ x.atC,kp _ _ x.atL,by obtain⟨o,es,ep,e,r⟩:=x.nc;exact⟨o,es,ep,kp _ _ e,r⟩,by obtain⟨o,es,ep,e,r⟩:=Lg;exact⟨o,es,ep,kp _ _ e,r⟩⟩
theorem tQ{C L:H1}{x:V6}{bm:P0 K0}:(x6 C::.J0 L::bm).VG (.U0 x)=bm.VG (.U0 x):=by
 rewrite [fs,fs];rfl
noncomputable abbrev DJ(h:O1)(C:H1)(J4:P0 K0):O1:=(rN {O2:=.U0 "tuple",M3:=.W5 J4.P8}).y6 {O2:=.J0 C,M3:=.T5 #[.J0 o8,.H0,.H0,.H0,.O3 R0,.H0]}
section
variable{M:Model}{A:Around}{E:Value->Shared->Prop}{h:Heap}{g:Array GenState}{d:Drawn}{t:Nat}{os:OsState}{k l:XK}
theorem lT(X:zA h k l){W2:u0}{y:Q1 K0}{Q:Q1 K0->D1->Prop}(hB:OA (.U0 "Exception") W2=L4 y)(hq:Q ((ZG W2).or ((gH W2).or y)) ⟨h,g,d,t,os⟩):
  V0 M A (OA (.J0 y4) W2) Q E ⟨h,g,d,t,os⟩:=by
 have hU:e90 EF W2=L4 y:=by rw[aU0,ba.mroIs]at hB;exact hB
 rw[aU0];refine S0 (Pt bH ?_);rw[cT0];refine S0 (KT0 bH X.nc ?_);cases hv:ZG W2 with
 |E0 v=>rw[hv]at hq;exact E2 hq
 |H0=>
  show V0 M A (e90 (.J0 oH::EF) W2) Q E _;rw[cT0];refine S0 (KT0 X.atL X.nl ?_);cases hw:gH W2 with
  |E0 v=>rw[hv,hw]at hq;exact E2 hq
  |H0=>
   rw[hv,hw]at hq;show V0 M A (e90 EF W2) Q E _;rw[hU];exact E2 hq
theorem NN0(X:zA h k l){J4:P0 K0}{Q:T7->D1->Prop}(hq:Q () ⟨h,g,d,t,os⟩):V0 M A (KR "Exception.__new__" ⟨.J0 y4::J4,[]⟩) Q E ⟨h,g,d,t,os⟩:=by
 have F:=ba;have hC:=bH;have ON0:(x6 y4::.J0 oH::EF).VG (.U0 "Exception")=I0:=by rw[tQ];exact rA0
 have hstar:=F.Q8;unfold KR;rw[F.newKind,F.newSplit,F.newRow]
 repeat (first|refine yA hC ?_|(refine GR hC ?_;rw[ON0])|refine wpAny_staticBase_exc hC ?_|refine t80 hC ?_|with_reducible refine SI (λ h=>PG ((bne_self_eq_false _).Z3.U2 h)) ?_|wp_step)
 exact hq
end
section
variable{prog:Program}{w:World}{A:Around}{E:Value->Shared->Prop}{R:Result->Shared->Prop}{h:Heap}{g:Array GenState}{d:Drawn}{t:Nat}{os:OsState}{k l:XK}
theorem PN0(X:zA h k l){J4:P0 K0}(hq:R (.ok (.U1 (.J0 (o8+1)))) ⟨DJ h y4 J4,g,d,t,os⟩)(hU:J4.M7<=aA):
  JC (U4 L3 w) A (.Z4 "Exception.__new__" ⟨.J0 y4::J4,[]⟩) R ⟨h,g,d,t,os⟩:=by
 have F:=ba;have hC:=bH;have zW0:=F.ends;have LN:(x6 y4::.J0 oH::EF).VG (.U0 "Exception")=I0:=by rw[tQ];exact rA0
 have hcA:(x6 y4::.J0 oH::EF).VG (.U0 "AttributeError")=R0:=by rw[tQ];exact F.sA0
 have hcN:(x6 y4::.J0 oH::EF).VG (.U0 "NameError")=R0:=by rw[tQ];exact F.noName
 refine codeAny_builtinAt F.entry ?_;unfold MA.«BaseException.__new__»;refine EW0 ?_;show wpAt _ _ _ (stack>>=_) _ _ _;refine EW0 (wpAt_stack λ p below=>bU0 ?_)
 wp_walk
 refine bU0 ?_;rw[F.Uz]
 repeat (first|with_reducible refine wpAny_madeHere_exc F.canon hC ?_|with_reducible refine yA hC ?_|(with_reducible refine GR hC ?_;first|rw[LN]|rw[hcA]|rw[hcN])|wp_step)
 show R _ _;rw[bD];exact hq
theorem QN0(X:zA h k l){J4:P0 K0}{fI:H1}{oI:D4}{Q:jH->D1->Prop}(hk:ZG "__init__"=H0)(hi:gH "__init__"=E0 (.J0 fI))(LS:C3 fI=E0 oI)(jX:uz=.U0 "function")
  (hU:J4.M7<=aA)
  (hq:V0 (U4 L3 w) A (K2 (.J0 fI) (.J0 (o8+1)::J4)) (λ r s'=>r=.H0/\Q (.ND (.U1 (.J0 (o8+1)))) s') E ⟨DJ h y4 J4,g,d,t,os⟩):
  V0 (U4 L3 w) A (MA.«type.__call__» ⟨.J0 y4::J4,[]⟩) Q E ⟨h,g,d,t,os⟩:=by
 have F:=ba;have hC:=bH
 repeat (first|with_reducible refine yA hC ?_|with_reducible refine t80 hC ?_|wp_step)
 refine hS0 (Rs _ F.quiet) (NN0 X ?_);refine PN0 X ?_ hU;show V0 _ _ _ _ _ _;have p50:zA (DJ h y4 J4) k l:=X.MC λ b o e=>T6 _ (T6 _ e);have Qj:=p50.atC;have fu:(DJ h y4 J4).X5 fI=E0 oI:=T6 _ (T6 _ LS);have BG:(DJ h y4 J4).X5 (o8+1)=E0 {O2:=.J0 y4,M3:=.T5 #[.J0 o8,.H0,.H0,.H0,.O3 R0,.H0]}:=by heap_get
 have jg:(x6 y4::.J0 oH::EF).VG (.J0 y4)=I0:=by simp
 unfold vw
 repeat (first|with_reducible refine yA BG ?_|(with_reducible refine GR Qj ?_;rw[jg])|wp_step)
 show V0 _ _ (OA (.J0 y4) _) _ _ _;refine lT p50 F.E_.e9 ?_;rw[hk,hi];refine A8 (S0 ?_);unfold PV0;refine S0 (OR (T:="function") ⟨_,fu,jX⟩ ?_);rw[y3 (by decide)];refine E2 (S0 (V3 hq (λ r s' hr=>?_) λ _ _ x=>x));obtain⟨O,hQ⟩:=hr
 wp_walk
 exact hQ
theorem RN0{M:YB}(X:zA h k l){J4:P0 K0}{Q:T7->D1->Prop}(hq:Q () ⟨h,g,d,t,os⟩):V0 M A (KR "type.__call__" ⟨.J0 y4::J4,[]⟩) Q E ⟨h,g,d,t,os⟩:=
 iS0 bH hq
theorem SN0(X:zA h k l){J4:P0 K0}{fI:H1}{oI:D4}{Q:K0->D1->Prop}(hk:ZG "__init__"=H0)(hi:gH "__init__"=E0 (.J0 fI))(LS:C3 fI=E0 oI)(jX:uz=.U0 "function")
  (hU:J4.M7<=aA)
  (hq:V0 (U4 L3 w) (gR (.Z4 "type.__call__" ⟨.J0 y4::J4,[]⟩)) (K2 (.J0 fI) (.J0 (o8+1)::J4)) (λ r s'=>r=.H0/\Q (.J0 (o8+1)) s') E ⟨DJ h y4 J4,g,d,t,os⟩):
  V0 (U4 L3 w) A (K2 (.J0 y4) J4) Q E ⟨h,g,d,t,os⟩:=by
 have f1:=yV0;have f2:=tc_bind (.J0 y4);have hC:=bH;have hT:(⟨h,g,d,t,os⟩:D1).XV (.J0 y4) "type":=⟨_,hC,O⟩;refine xZ (bZ ?_);show V0 _ _ (dA0 (.J0 y4) _) _ _ _
 repeat (any_goals (first|assumption|with_reducible refine yA hC ?_|wp_step))
 refine⟨O,?_⟩;exact mS0 (Rs _ (by decide +F7)) BU0 (RN0 X (QN0 X hk hi LS jX hU hq))
theorem q50{M:YB}(X:zA h k l){Q:jm->D1->Prop}(hq:Q .machine ⟨h,g,d,t,os⟩):V0 M A (UW0 (.J0 y4)) Q E ⟨h,g,d,t,os⟩:=LT0 bH hq
noncomputable abbrev AA(C:H1)(pH:Q1 H1)(vs:M4 K0):D4:=⟨.J0 C,pH,.T5 vs,#[]⟩
variable{M:Model}{e:Addr}{dct:Option Addr}{vs:Array Value}
theorem r50(X:zA h k l)(he:C3 e=E0 (AA y4 pH vs)){msg:V6}{Q:K0->D1->Prop}(hq:Q (.J0 e) ⟨h,g,d,t,os⟩):V0 M A (xU0 (.J0 e) msg) Q E ⟨h,g,d,t,os⟩:=by
 have hC:=bH;have LN:(x6 y4::.J0 oH::EF).VG (.U0 "BaseException")=I0:=by rw[tQ];exact J80
 unfold xU0
 repeat (first|with_reducible refine yA he ?_|with_reducible refine yA hC ?_|(with_reducible refine GR hC ?_;rw[LN])|wp_step)
 exact hq
theorem s50(he:C3 e=E0 (AA y4 pH vs)){Q:I1->D1->Prop}(hq:Q R0 ⟨h,g,d,t,os⟩):V0 M A (isType (.J0 e)) Q E ⟨h,g,d,t,os⟩:=by
 unfold isType
 repeat (first|with_reducible refine yA he ?_|wp_step)
 exact hq
theorem t50(X:zA h k l)(he:C3 e=E0 (AA y4 pH vs)){Q:K0->D1->Prop}(hq:Q (.J0 e) ⟨h,g,d,t,os⟩):V0 M A (GU0 (.J0 e)) Q E ⟨h,g,d,t,os⟩:=by
 have hC:=bH;unfold GU0
 repeat (first|with_reducible refine yA he ?_|with_reducible refine yA hC ?_|wp_step)
 exact hq
theorem TN0{x:Y7 K0}{N0:o6}{Q:OJ->D1->Prop}{s:D1}(hh:F9=H0)
  (h:V0 M A x (λ v N6=>∃e pH vs k l,v=.J0 e/\zA o00 k l/\N6.FV e=E0 (AA y4 pH vs)/\V0 M A (Re (.J0 e) H0) (λ _ s9=>E (.J0 e) s9) E N6) E s):
  V0 M A (Im N0 (E0 x) H0) Q E s:=by
 unfold Im;refine S0 (V3 h (λ v N6 n5=>?_) λ _ _ x=>x);obtain⟨e,pH,vs,k,l,O,X,he,hE⟩:=n5;obtain⟨hp,g,d,tk,os⟩:=N6;refine S0 (E2 (S0 (A8 (r50 X he ?_))));refine S0 (s50 he ?_);refine SI PG ?_;refine S0 (t50 X he ?_);exact S0 (V3 hE (λ _ s9 u7=>wpAny_raiseNew_none hh u7) λ _ _ x=>x)
theorem UN0{k' l':XK}(X:zA h k l)(X':zA h k' l')(Z6:IO≠oH)(he:C3 e=E0 (AA y4 pH vs)){Q:I1->D1->Prop}(hq:Q (JE (IO=y4)) ⟨h,g,d,t,os⟩):
  V0 M A (hV0 (.J0 e) (.J0 IO)) Q E ⟨h,g,d,t,os⟩:=by
 have hC:=bH;have hC':=X'.atC;have LN:(x6 IO::.J0 l'.C::EF).VG (.U0 "BaseException")=I0:=by rw[tQ];exact J80
 have jg:(x6 y4::.J0 oH::EF).VG (.J0 IO)=JE (IO=y4):=by
  rw[fs,fs];have e1:(x6 IO==x6 oH)=R0:=by simpa using Z6
  have e2:(x6 IO==x6 y4)=JE (IO=y4):=by
   by_cases q:IO=y4
   ·rw[q];simp
   ·simp[q]
  have e3:EF.VG (.J0 IO)=R0:=O;rw[e1,e2,e3];simp
 have f:=tc_notTuple;unfold hV0
 repeat (first|with_reducible refine yA he ?_|with_reducible refine yA hC' ?_|(with_reducible refine GR hC' ?_;rw[LN])|(with_reducible refine GR hC ?_;rw[jg])|wp_step)
 cases hb:JE (IO=y4)<;>(rw[hb]at hq;wp_walk;exact hq)
end
end
end
section
open PyProof.Rows
variable{B:Bs}{A:Around}{G G':Gh}{s s':Shared}{F:Addr->Prop}{FZ:Nat->Bool}
variable{g:Nat->Option PV}{cl:Nat->Nat}{n:Nat}{ih:C5}{T:Tab}{cenv:Env}{L:Kinds}{env:PV}{k:Nat}
theorem V4.u50{α β γ:Type}{R:Gh->O1->α->β->Prop}{m:M α}{t:Y7 β}{f:α->M γ}{P:γ->K1->Prop}{X:C0->K1->Prop}{K:β->D1->Prop}(h:V4 B R N2 A m t G s)(a:(F1 m f R1).P1 P X)
  (k:∀G' s' a b,A3 B N2 G s G' s'->J1 B A G' s'->R G' U6 a b->(f a wF).P1 P X->K b s'):V0 R2 A t K (Px B F A G s X) s:=
 V3 (h.s8 a k) (λ _ _ h=>h) λ _ _ h=>Ao
def MN:P0 u0:=["__getattribute__","__getattr__","__setattr__","message","spot"]
structure ZE(B:Bs)(T:mI)where
 l:XK
 leaf:∀c,Y9 T c=I0->∃k:XK,y4=c/\c≠oH/\(∀h,YD B h->zA h k l)/\ZG "__init__"=H0/\∀n∈MN,ZG n=H0
 VN0:∀n∈MN,gH n=H0
theorem mT(gd:J1 B A G s){i:C0}(hi:i<J3){cx:I1}{c d:C0}(h:P3 i=.K8 cx c d):∃vs,F3 (Y2 i)=E0 (AA c (E0 (Y2 d)) vs)/\uS VH cx W0 vs:=by
 have ob:=cL i hi;rw[h]at ob;obtain⟨vs,e,_,_,t⟩:=ob;exact⟨vs,e,t⟩
theorem WN0(XB:ZE B T)(HE:z7 B g cl n ih)(X:G5 B n A N0 L O0 G s){e:C1}{J4:P0 P5}{D2:T3}{k2:C0}:
  uO B A N0 L (F1 (R5 (cE g cl k2 L e) O0) (B20 T)) (.pR (E0 e) H0 D2::J4) G s:=by
 intro P Q M0;refine AB ?_;refine S0 (BB (TN0 xn ?_));refine S0 ((HE X).u50 M0 λ G1 s1 a v C2 g1 ra E4=>S0 (BB (E2 ?_)));cases a using Q3 with
 |J0 i=>
  symm;obtain⟨hi,O⟩:=ra;have E4:(((match nW i with|.K8 _ c _=>pA 79 (Y9 T c) (Fo i)|_=>F2 79):M Fl) qF).P1 P Q:=E4;cases ex:nW i with
  |K8 cx c d=>
   rw[ex]at E4;obtain⟨hc,hq⟩:=ZX E4;have hq:Q i qF:=hq;obtain⟨k,O,Z6,E8,_⟩:=UU c hc;obtain⟨vs,ho,_⟩:=mT g1 hi ex;ext;refine⟨Zz i,_,vs,k,XB.l,O,E8 _ b00,ho,gQ g1 ⟨hi,O,cx,y4,d,ex⟩ λ s2 nC=>?_⟩;exact⟨G1,i,(iC λ _ q=>Q6).U2 (nC.2.E5 λ _ q=>Q6),nC.1,⟨hi,O,cx,y4,d,ex⟩,hq⟩
  |_=>
   ext;rw[ex]at E4;exact E4.KB
 |_=>exact E4.KB
def zv(g:C0->Q1 PV)(cl:C0->C0)(E:C5):Prop:=∀{k:C0}{L:z5}{O0:PV}{σ:K1}{P:Fl->K1->Prop}{Q:C0->K1->Prop},(E.AE (cS g cl k L []) O0 σ).P1 P Q->P (.W4 O0) σ
theorem XN0:zv g cl (K6 FZ T ih):=by
 intro k L O0 σ P Q h;induction k using TL with
 |K9=>exact u4
 |J9 k=>exact h
def Aw(B:Bs)(g:C0->Q1 PV)(cl:C0->C0)(n:C0)(E:C5):Prop:=
 ∀{A:C6}{G:Gh}{s:D1}{N0:o6}{L:z5}{O0:PV}{k:C0}{b:P0 P5}{P:Fl->K1->Prop}{Q:C0->K1->Prop},G5 B n A N0 L O0 G s->KV b=I0->(E.AE (cS g cl k L b) O0 R1).P1 P Q->
  V0 R2 A (mC b N0) (Po B (YE B N0) (D5 N0 L) A G s P) (Px B N2 A G s Q) s
theorem YN0(CT:aD B T)(ON:AF)(HE:z7 B g cl n ih)(HN:zv g cl ih):Aw B g cl (n+1) (K6 FZ T ih):=by
 intro A G s N0 L O0 k b P Q X1 hb M0;have X:=Y00;have M0:(Ph FZ T ih (cS g cl k L b) O0 R1).P1 P Q:=M0;induction k using TL with
 |K9=>exact C4
 |J9 k=>
  have sh:=oC0 b;rw[hb]at sh;cases sh with
  |V1 x xp f L1 QA cp D2=>
   change(Ph FZ T ih (bif dM (.u3 x xp) (.C7 f L1 QA cp)&&mG (cF (.u3 x xp))&&uK (.u3 x xp) (.C7 f L1 QA cp)then .V1 (cT L (cE g cl k L) (.u3 x xp)) (cE g cl k L (.C7 f L1 QA cp)) (cS g cl k L [])else .M2) O0 R1).P1 P Q at M0;cases hc:dM (.u3 x xp) (.C7 f L1 QA cp)&&mG (cF (.u3 x xp))&&uK (.u3 x xp) (.C7 f L1 QA cp)with
   |R0=>rw[hc]at M0;exact C4
   |I0=>
    rw[hc]at M0;simp -w4 only[N5]at hc;have M0:(F1 (R5 (cE g cl k L (.C7 f L1 QA cp)) O0) (λ v=>F1 (aC FZ T ih (cT L (cE g cl k L) (.u3 x xp)) v O0) λ W9=>cC (cS g cl k L []) W9) R1).P1 P Q:=M0;refine AB ?_;have sw:pv [.u3 x xp] (.C7 f L1 QA cp) i_ N0=L4 R0:=O;refine S0 (BB (S0 (E2 ?_)));refine SI PG ?_;refine S0 ((HE X).s8 M0 λ G1 s1 a v C2 g1 ra E4=>?_);have h2:=c50 (X':=λ _ _=>J6) (.S2 ⟨x,xp,O⟩) (j6 E4);refine V3 (Pk CT ON HE (KC C2 g1) hc.2 hc.1.2 ra h2) ?_ λ e s2 Z2=>by obtain⟨_,_,_,_,_,h⟩:=Z2;exact u4
    intro f s2 Z2;obtain⟨hf,G2,V8,I2,g2,R6,hp⟩:=Z2;subst hf;exact KP ⟨G2,.W4 V8,(iC λ _ q=>Q6).U2 I2,g2,R6,HN hp⟩
  |B6 f L1 QA cp D2=>
   have M0:(F1 (R5 (cE g cl k L (.C7 f L1 QA cp)) O0) (λ _=>cC (cS g cl k L []) O0) R1).P1 P Q:=M0;refine AB ?_;refine G90 ?_ (o50 X) O;refine(HE X).s8 M0 λ G1 s1 a v C2 g1 ra E4=>?_;exact KP ⟨G1,.W4 O0,iC λ _ q=>Q6,g1,iL C2,HN E4⟩
end
section
open PyProof.Rows
variable{B:Bs}{A:Around}{G G':Gh}{s s':Shared}{F:Addr->Prop}{FZ:Nat->Bool}
variable{g:Nat->Option PV}{cl:Nat->Nat}{n:Nat}{ih:C5}{T:Tab}{cenv:Env}{L:Kinds}{env:PV}{k:Nat}
theorem v50{t:C1}{a:C0}(h:ZH g L t=E0 a):∃x p,t=.u3 x p/\A5 x=I0/\E7 L x=I0/\g (vc x)=E0 (.Y0 a):=by
 symm;obtain⟨x,hx,h⟩:=WS h;obtain⟨p,O⟩:=LY hx;obtain⟨hc,h⟩:=UC h;obtain⟨v,hv,h⟩:=WS h;obtain⟨h1,h2⟩:=Bi hc;ext;exact⟨x,p,O,h1,h2,hv.U2 (H6 E0 (dC0 h))⟩
theorem ZN0(BF:S7 B g)(ES:n9 N0 L)(gd:J1 B A G s)(er:V5 B N0 D0 O0 G W0){e:C1}{r:C}{vs:PV}(h:LQ O0 (.A0 (dO g L e) r)=E0 vs):
  ∃v rC,vs=.A0 v rC/\LQ O0 r=E0 rC/\∀(P:PV->K1->Prop)(X:C0->K1->Prop),P v R1->V0 R2 A (Q5 e N0) (Po B RV N2 A G s P) (Px B N2 A G s X) s:=by
 have v0:∀{p:PV},dO g L e=.v0 p->(∀(P:PV->K1->Prop)(X:C0->K1->Prop),P p R1->V0 R2 A (Q5 e N0) (Po B RV N2 A G s P) (Px B N2 A G s X) s)->
   ∃v rC,vs=.A0 v rC/\LQ O0 r=E0 rC/\∀(P:PV->K1->Prop)(X:C0->K1->Prop),P v R1->V0 R2 A (Q5 e N0) (Po B RV N2 A G s P) (Px B N2 A G s X) s:=λ{p} hc hw=>by
  rw[hc]at h;have h:(LQ O0 r).Y4 (.A0 p)=E0 vs:=h;obtain⟨rC,h1,h2⟩:=DR h;exact⟨p,rC,Q00,h1,hw⟩
 have M2:dO g L e=.M2->J6:=λ hc=>by rw[hc]at h;contradiction
 cases e using j9 with
 |u3 x p=>
  symm;have hc:dO g L (.u3 x p)=NQ g L x:=O;unfold NQ at hc;cases hn:A5 x with
  |R0=>
   ext;rw[hn]at hc;exact(M2 hc).KB
  |I0=>
   rw[hn]at hc;cases hl:n7 L x with
   |I0=>
    rw[hl]at hc;have hc:dO g L (.u3 x p)=.F0 (vc x):=hc;rw[hc]at h;have h:(match I4 (vc x) O0 with|E0 v=>(LQ O0 r).Y4 (.A0 v)|H0=>H0)=E0 vs:=h;cases hv:I4 (vc x) O0 with
    |H0=>
     ext;rw[hv]at h;contradiction
    |E0 v=>
     rw[hv]at h;obtain⟨rC,h1,h2⟩:=DR h;ext;refine⟨v,rC,Q00,h1,λ P X hp=>e30 ES gd er hn hl P X ?_⟩;rw[hv];exact hp
   |R0=>
    rw[hl]at hc;cases hg:E7 L x with
    |R0=>
     ext;rw[hg]at hc;exact(M2 hc).KB
    |I0=>
     rw[hg]at hc;cases hp:g (vc x)with
     |H0=>
      ext;rw[hp]at hc;exact(M2 hc).KB
     |E0 q=>
      rw[hp]at hc;ext;exact v0 hc λ P X hP=>g30 BF ES gd hn hg hp P X hP
 |H8 c j p=>
  symm;have hc:dO g L (.H8 c j p)=bO c:=O;rcases e40 c with q|⟨p',q⟩
  ·ext;rw[q]at hc;exact(M2 hc).KB
  ·ext;exact v0 (hc.U2 q) λ P X hP=>Tx gd q P X hP
 |_=>exact(M2 O).KB
theorem aN0(BF:S7 B g)(ES:n9 N0 L){D2:T3}:∀{es:P0 C1}{vs:PV}{G:Gh}{s:D1},J1 B A G s->V5 B N0 D0 O0 G W0->LQ O0 (R8 (dO g L) es)=E0 vs->
  ∀(P:PV->K1->Prop)(X:C0->K1->Prop),P vs R1->V0 R2 A (Vy (J_ D2 (SU es N0))) (Po B (kY Yn) N2 A G s P) (Px B N2 A G s X) s:=by
 intro zq;induction zq with
 |B0=>
  intro vs G s gd er h P X hp;have h:E0 mP=E0 vs:=h;obtain O:=I3 h;exact JJ (.EB (R:=kY 0) (a:=.B0) gd ⟨O,O⟩ hp)
 |A0 e r ih=>
  intro vs G s gd er h P X hp;cases he:Q8 e with
  |R0=>rw[Sj he]at h;contradiction
  |I0=>
   rw[Rj he]at h;rw[zI he];obtain⟨v,rC,O,h1,h2⟩:=ZN0 BF ES gd er h;refine zD (V3 (h2 (λ a σ=>a=v/\σ=R1) X ⟨O,O⟩) ?_ λ _ _ h=>h);intro w s1 Z2;obtain⟨G1,a,C2,g1,ra,ea,eσ⟩:=Z2;subst ea;refine V3 (ih g1 (HI C2) h1 (λ a2 σ=>P (.A0 a a2) σ) X (by rw[eσ];exact hp)) ?_ λ _ _ h=>RJ C2;intro ws s2 Z2;obtain⟨G2,a2,I2,g2,r2,hp2⟩:=Z2;exact .at (R:=kY (r.M7+1)) (a:=.A0 a a2) (FC I2) g2 ⟨⟨w,ws,O,ra.K6 I2,r2.1⟩,H6 LH r2.2⟩ hp2
end
section
open Builtin Builtin.ObjectAttr
section
section
variable{prog:Program}{w:World}{A:Around}{E:Value->Shared->Prop}{h:Heap}{g:Array GenState}{d:Drawn}{t:Nat}{os:OsState}{k l:XK}{e:Addr}{dct:Option Addr}{vs:Array Value}{name:Str}{v:Value}
theorem w50{M:YB}(X:zA h k l)(he:C3 e=E0 (AA y4 pH vs)){Rf:K0}{Q:T7->D1->Prop}(hq:Q () ⟨h,g,d,t,os⟩):
  V0 M A (KR "object.__setattr__" ⟨[.J0 e,Rf,v],[]⟩) Q E ⟨h,g,d,t,os⟩:=by
 have SF:=Ki;have hC:=bH;have LN:(x6 y4::.J0 oH::EF).VG (.U0 "object")=I0:=by rw[tQ];exact SF.hasOwner
 have ha:=SF.L1 (.J0 e) Rf v;unfold KR;rw[SF.nL,SF.nR];refine S0 ?_;unfold vw
 repeat (first|with_reducible refine yA he ?_|(with_reducible refine GR hC ?_;rw[LN])|wp_step)
 exact hq
def Qk(h:O1)(e:H1)(k:XK)(vs:M4 K0)(D:H1)(m:u0->Q1 K0)(h':O1):Prop:=
 D3 e=E0 (AA y4 (E0 D) vs)/\se D m/\(∃o,D3 D=E0 o/\H4=.U0 "dict")/\∀b o,b≠e->b≠D->C3 b=E0 o->D3 b=E0 o
theorem bN0{tk:P6}{Q:jH->D1->Prop}(X:zA h k l)(hk:ZG W2=H0)(hl:gH W2=H0)(hB:OA (.U0 "Exception") W2=L4 H0)(he:C3 e=E0 (AA y4 H0 vs))
  (hq:∀h' PD,Qk h e k vs o8 (λ y=>if y=W2 then E0 v else H0) h'->Q (.ND (.U1 .H0)) ⟨h',g,d,PD,os⟩):
  V0 (U4 L3 w) A (MA.«object.__setattr__» ⟨[.J0 e,.Z0 W2 tk,v],[]⟩) Q E ⟨h,g,d,t,os⟩:=by
 have SF:=Ki;have hC:=bH;have Of:=w90 (.J0 e);generalize aF:AA y4 H0 vs=o at he;have UM:H4=.J0 y4:=by rw[<-aF]
 have qg:uU=H0:=by rw[<-aF]
 have zY:I9=.T5 vs:=by rw[<-aF]
 have Qa:Wo=#[]:=by rw[<-aF]
 unfold MA.«object.__setattr__»
 repeat (first|rw[x90]|(rw[lk,lk,Of])|(with_reducible refine yA he ?_;rw[UM])|with_reducible refine Pt hC ?_|(with_reducible refine lT X hB ?_;rw[hk,hl])|wp_step)
 rw[qg];rewrite [w3 (by simp[typeHasDict])];dsimp only;rw[zY];dsimp only
 ·have x50:(rN {O2:=.U0 "dict",M3:=.H2 #[]}).X5 e=E0 o:=T6 _ he;have pX:e≠o8:=ZC (r9 he);refine S0 (wpAny_alloc' ?_);refine S0 (wpAny_update' x50 ?_);refine E2 ?_;have lg:((rN {O2:=.U0 "dict",M3:=.H2 #[]}).JF e λ o=>{O2:=H4,H2:=E0 o8,M3:=I9,LC:=Wo}).X5 o8
    =E0 {O2:=.U0 "dict",M3:=.H2 #[]}:=
   (pT0 _ _ _ _ pX.Z3).U2 (TU0 O O)
  have hnd:((rN {O2:=.U0 "dict",M3:=.H2 #[]}).JF e λ o=>{O2:=H4,H2:=E0 o8,M3:=I9,LC:=Wo}).Ns o8 (λ _=>H0):=
   ⟨_,#[],_,lg,O,λ e he=>U3 he (by simp),λ _=>O⟩
  show V0 _ _ (X90 o8 (.Z0 W2 tk) W2 v) _ _ _;refine S0 (E2 (S0 (Zu (IV0 hnd) λ h' JM hs dG=>?_)));obtain⟨oD,esD,epD,qV,qc,rV⟩:=RA0 (XU.A0 W2 v XU.B0);refine S0 (r80 qV (by rw[qc];exact s80 (X6 rV (by rw[GJ,BU,LI];omega))) ?_)
  wp_walk
  have WO:D3 e=E0 (AA y4 (E0 o8) vs):=by
   refine(hs.2 e pX).U2 ((GH _ x50 (by simp[D4.isFreed,zY])).U2 ?_);rw[UM,zY,Qa]
  refine hq h' _ ⟨WO,JM,?_,λ b ob hbx hbD hb=>?_⟩
  ·obtain⟨o',IS,dB⟩:=dG _ lg;exact⟨o',IS,dB⟩
  ·exact(hs.2 b hbD).U2 ((pT0 _ _ _ _ hbx).U2 (T6 _ hb))
theorem cN0{tk:P6}{Q:jH->D1->Prop}{D:H1}{m:u0->Q1 K0}{ns:P0 u0}(X:zA h k l)(hk:ZG W2=H0)(hl:gH W2=H0)(hB:OA (.U0 "Exception") W2=L4 H0)(he:C3 e=E0 (AA y4 (E0 D) vs))
  (cG:bU D m)(hc:∃o,C3 D=E0 o/\H4=.U0 "dict")(Z6:D≠e)(hw:XU m ns)(Z7:NK<=100)
  (hq:∀h' PD,Qk h e k vs D (λ y=>if y=W2 then E0 v else m y) h'->Q (.ND (.U1 .H0)) ⟨h',g,d,PD,os⟩):
  V0 (U4 L3 w) A (MA.«object.__setattr__» ⟨[.J0 e,.Z0 W2 tk,v],[]⟩) Q E ⟨h,g,d,t,os⟩:=by
 have SF:=Ki;have hC:=bH;have Of:=w90 (.J0 e);generalize aF:AA y4 (E0 D) vs=o at he;have UM:H4=.J0 y4:=by rw[<-aF]
 have qg:uU=(E0 D):=by rw[<-aF]
 have zY:I9=.T5 vs:=by rw[<-aF]
 have Qa:Wo=#[]:=by rw[<-aF]
 unfold MA.«object.__setattr__»
 repeat (first|rw[x90]|(rw[lk,lk,Of])|(with_reducible refine yA he ?_;rw[UM])|with_reducible refine Pt hC ?_|(with_reducible refine lT X hB ?_;rw[hk,hl])|wp_step)
 rw[qg];refine E2 ?_;show V0 _ _ (X90 D (.Z0 W2 tk) W2 v) _ _ _;refine S0 (E2 (S0 (Zu cG λ h' JM hs dG=>?_)));obtain⟨oD,esD,epD,qV,qc,rV⟩:=RA0 (XU.A0 W2 v hw);refine S0 (r80 qV (by rw[qc];exact s80 (X6 rV (by rw[GJ,LI];omega))) ?_)
 wp_walk
 refine hq h' _ ⟨mW _ _ ZR (aF▸he),JM,?_,λ b o _ hb e=>mW _ _ hb e⟩;obtain⟨o,ho,hco⟩:=hc;obtain⟨o',IS,dB⟩:=dG o ho;exact⟨o',IS,dB.U2 hco⟩
end
end
end
section
open Builtin Builtin.ObjectAttr
section
section
variable{prog:Program}{w:World}{A:Around}{E:Value->Shared->Prop}{h:Heap}{g:Array GenState}{d:Drawn}{t:Nat}{os:OsState}{k l:XK}{e:Addr}{dct:Option Addr}{vs:Array Value}{name:Str}{v:Value}
theorem dN0{Q:T7->D1->Prop}(X:zA h k l)(hs:ZG "__setattr__"=H0)(hsl:gH "__setattr__"=H0)(hk:ZG W2=H0)(hl:gH W2=H0)(hB:OA (.U0 "Exception") W2=L4 H0)(he:C3 e=E0 (AA y4 H0 vs))
  (hq:∀h' PD,Qk h e k vs o8 (λ y=>if y=W2 then E0 v else H0) h'->Q () ⟨h',g,d,PD,os⟩):
  V0 (U4 L3 w) A (VW (.J0 e) W2 v) Q E ⟨h,g,d,t,os⟩:=by
 have SF:=Ki;have f3:=TU.S6 (.J0 e);unfold VW yU0 mx
 repeat (any_goals (first|assumption|with_reducible refine yA he ?_|(with_reducible refine lT X TU.e9 ?_;rw[hs,hsl])|wp_step))
 refine mi TU.xF KA0 (w50 X he (bN0 X hk hl hB he λ h' PD QC=>?_))
 repeat (any_goals (first|assumption|wp_step))
 exact hq h' PD QC
theorem eN0{Q:T7->D1->Prop}{D:H1}{m:u0->Q1 K0}{ns:P0 u0}(X:zA h k l)(hs:ZG "__setattr__"=H0)(hsl:gH "__setattr__"=H0)(hk:ZG W2=H0)(hl:gH W2=H0)(hB:OA (.U0 "Exception") W2=L4 H0)
  (he:C3 e=E0 (AA y4 (E0 D) vs))(cG:bU D m)(hc:∃o,C3 D=E0 o/\H4=.U0 "dict")(Z6:D≠e)(hw:XU m ns)(Z7:NK<=100)
  (hq:∀h' PD,Qk h e k vs D (λ y=>if y=W2 then E0 v else m y) h'->Q () ⟨h',g,d,PD,os⟩):
  V0 (U4 L3 w) A (VW (.J0 e) W2 v) Q E ⟨h,g,d,t,os⟩:=by
 have SF:=Ki;have f3:=TU.S6 (.J0 e);unfold VW yU0 mx
 repeat (any_goals (first|assumption|with_reducible refine yA he ?_|(with_reducible refine lT X TU.e9 ?_;rw[hs,hsl])|wp_step))
 refine mi TU.xF KA0 (w50 X he (cN0 X hk hl hB he cG hc Z6 hw Z7 λ h' PD QC=>?_))
 repeat (any_goals (first|assumption|wp_step))
 exact hq h' PD QC
theorem fN0{M:YB}(X:zA h k l)(he:C3 e=E0 (AA y4 pH vs)){Rf:K0}{Q:T7->D1->Prop}(hq:Q () ⟨h,g,d,t,os⟩):
  V0 M A (KR "BaseException.__getattribute__" ⟨[.J0 e,Rf],[]⟩) Q E ⟨h,g,d,t,os⟩:=by
 have hC:=bH;have hk:builtinKind "BaseException.__getattribute__"=E0 .slot:=by decide +F7
 have xe:splitId "BaseException.__getattribute__"=E0 ("BaseException","__getattribute__"):=by decide +F7
 have LN:(x6 y4::.J0 oH::EF).VG (.U0 "BaseException")=I0:=by rw[tQ];exact J80
 have ha:=c8.args_bexc_ga (.J0 e) Rf;unfold KR;rw[hk,xe];refine S0 ?_;unfold vw
 repeat (first|with_reducible refine yA he ?_|(with_reducible refine GR hC ?_;rw[LN])|wp_step)
 exact hq
theorem entryE{tk:P6}{Q:EP.jH->D1->Prop}{D:H1}{m:u0->Q1 K0}(X:zA h k l)(hk:ZG W2=H0)(hl:gH W2=H0)(hB:OA (.U0 "Exception") W2=L4 H0)
  (he:C3 e=E0 (AA y4 (E0 D) vs))(cG:bU D m)(hv:m W2=E0 v)(hq:Q (.ND (.U1 v)) ⟨h,g,d,t,os⟩):
  V0 (U4 L3 w) A (MA.«object.__getattribute__» ⟨[.J0 e,.Z0 W2 tk],[]⟩) Q E ⟨h,g,d,t,os⟩:=by
 have hC:=bH;generalize aF:AA y4 (E0 D) vs=o at he;have UM:H4=.J0 y4:=by rw[<-aF]
 have qg:uU=E0 D:=by rw[<-aF]
 have zY:I9=.T5 vs:=by rw[<-aF]
 unfold MA.«object.__getattribute__»
 repeat (first|(with_reducible refine yA he ?_;rw[UM])|(with_reducible refine lT X hB ?_;rw[hk,hl])|wp_step)
 rw[zY];dsimp only;unfold instanceDict
 repeat (first|(with_reducible refine yA he ?_;rw[UM])|with_reducible refine yA hC ?_|wp_step)
 rw[qg]
 repeat (first|(with_reducible refine QV0 cG.ns ?_;rw[hv])|wp_step)
 exact hq
theorem gN0{Q:K0->D1->Prop}{B6:I1}{D:H1}{m:u0->Q1 K0}(X:zA h k l)(h1:ZG "__getattribute__"=H0)(h2:gH "__getattribute__"=H0)(h3:ZG "__getattr__"=H0)(h4:gH "__getattr__"=H0)(hk:ZG W2=H0)(hl:gH W2=H0)
  (hB:OA (.U0 "Exception") W2=L4 H0)(he:C3 e=E0 (AA y4 (E0 D) vs))(cG:bU D m)(hv:m W2=E0 v)(hh:vV0 v=L4 v)(hq:Q v ⟨h,g,d,t+1,os⟩):
  V0 (U4 L3 w) A (ix (.J0 e) W2 B6) Q E ⟨h,g,d,t,os⟩:=by
 have FB:=c8.attrBase_Exception;have f3:=FB.ga.S6 (.J0 e);have wI:(B6&&nx (UW "BaseException.__getattribute__"))=R0:=by cases B6 using o7<;>rfl
 have hx2:(UW "BaseException.__getattribute__"==UW "object.__getattribute__")=R0:=by decide +F7
 have hx1:(nx (x6 y4)&&UW "BaseException.__getattribute__"==UW "object.__getattribute__")=R0:=by rw[hx2];rfl
 generalize aF:AA y4 (E0 D) vs=o at he;have UM:H4=.J0 y4:=by rw[<-aF]
 unfold ix getAttrBy
 repeat (any_goals (first|assumption|(with_reducible refine yA he ?_;rw[UM])|(with_reducible refine lT X FB.ga.e9 ?_;rw[h1,h2])|(with_reducible refine lT X FB.noGetattr ?_;rw[h3,h4])|wp_step))
 subst aF;refine mi FB.ga.xF c8.entry_bexc_ga (fN0 X he (entryE X hk hl hB he cG hv ?_))
 repeat (any_goals (first|assumption|(rewrite [hh])|wp_step))
theorem hN0{Q:K0×P0 K0->D1->Prop}{pl:Y7 I1}{s:D1}(hq:Q (.Z4 "Exception.__init__",[]) {s with B4:=X4+1}):
  V0 (U4 L3 w) A (Te (.U0 "Exception") "__init__" pl) Q E s:=by
 have ht:typeOf (.U0 "Exception")=L4 (.U0 "type"):=kitMeta_of (by decide +F7);have LO:Looks (U4 L3 w) W0 (dT0 (.U0 "Exception")) H0:=cU0 (by unfold dT0;dsimp only;rfl);have q8:∀{B6:I1}{Q:K0->D1->Prop},Q (.Z4 "Exception.__init__") {s with B4:=X4+1}->V0 (U4 L3 w) A (ix (.U0 "Exception") "__init__" B6) Q E s:=λ hq=>
  cls_open (K:=[]) (mc:=.U0 "type") (r:=.B9 (.Z4 "Exception.__init__")) (hook:=H0) (λ a o e=>by contradiction) LO (cU0 ht) (by show iV0 "type" "__getattribute__"=_;kernel_rfl) (looks_hook (K:=[]) (λ a o e=>by contradiction) (r:=H0) (by rfl)) (by show subIn [] _ _=_;rfl) (by kernel_rfl) (E2 (wV0 O hq))
 have hlk:OA (.U0 "type") "__getattribute__"=L4 (E0 (.Z4 "type.__getattribute__")):=by rw[kt,Qr];kernel_rfl
 have hcan:(GT0 "type.__getattribute__"!="object.__getattribute__")=I0:=by decide +F7
 unfold Te mx;rw[ht];refine S0 (S0 (E2 (WN hlk ?_)));dsimp only;rw[y3 hcan];exact S0 (q8 (E2 hq))
theorem iN0{M:YB}(X:zA h k l)(he:C3 e=E0 (AA y4 pH vs)){J4:P0 K0}{Q:T7->D1->Prop}(hq:Q () ⟨h,g,d,t,os⟩):
  V0 M A (KR "Exception.__init__" ⟨.J0 e::J4,[]⟩) Q E ⟨h,g,d,t,os⟩:=by
 have F:=ba;have hC:=bH;have LN:(x6 y4::.J0 oH::EF).VG (.U0 "Exception")=I0:=by rw[tQ];exact rA0
 have AX0:=F.Q8;unfold KR;rw[F.initKind,F.initSplit,F.initRow]
 repeat (first|with_reducible refine yA he ?_|with_reducible refine yA hC ?_|(with_reducible refine GR hC ?_;rw[LN])|wp_step)
 refine iZ ?_;rw[show∀(a b:V6)(n:C0),Bind.check ⟨.positional,"*","Exception",.q_,[⟨"args",.varPos,R0⟩]⟩ a b n (P0.Y4 (λ x=>x.fst) ({D2:=x6 e::J4}:Args).kw)=L4 ()from
  λ a b n=>check_star_args _ _ _ _ _ _]
 exact E2 hq
noncomputable abbrev uQ(T:H1):M4 K0:=#[.J0 T,.H0,.H0,.H0,.O3 R0,.H0]
theorem jN0{T0:H1}(X:zA h k l)(he:C3 e=E0 (AA y4 pH (uQ T0))){m:K0}{Q:K0->D1->Prop}
  (hq:∀h',D3 e=E0 (AA y4 pH (uQ o8))->(∀b o,b≠e->C3 b=E0 o->D3 b=E0 o)->Q .H0 ⟨h',g,d,t,os⟩):
  V0 (U4 L3 w) A (K2 (.Z4 "Exception.__init__") [.J0 e,m]) Q E ⟨h,g,d,t,os⟩:=by
 have F:=ba;refine xZ (mi F.E_.xF F.initEntry (iN0 X he ?_));have pI:(rN {O2:=.U0 "tuple",M3:=.W5 [m].P8}).X5 e=E0 (AA y4 pH (uQ T0)):=T6 _ he
 wp_walk
 refine hq _ ?_ λ b o hb hbo=>?_
 ·rw[GH _ pI O];rfl
 ·rw[hM _ _ (H9 hb)];exact T6 _ hbo
end
end
end
section
open PyProof.Rows
variable{B:Bs}{A:Around}{G G':Gh}{s s':Shared}{F:Addr->Prop}{FZ:Nat->Bool}
variable{g:Nat->Option PV}{cl:Nat->Nat}{n:Nat}{ih:C5}{T:Tab}{cenv:Env}{L:Kinds}{env:PV}{k:Nat}
theorem Qm{G1:Gh}{s1:D1}{a:H1}{o:AO}(st:A3 B F G s G1 s1)(g:J1 B A G1 s1)(hn:F3 a=H0)(ap:x8 B G1 pE a)(ho:zE B (a_ o a) pE a o):
  J1 B A (a_ o a) s1/\A3 B F G s (a_ o a) s1:=by
 have le:=G1.BX0 o a;have lt:∀i,i<(a_ o a).σ.n->i<TH\/i=TH:=λ i hi=>ch hi;have ne:∀i,i<TH->i≠TH:=λ i hi=>ZC hi;have fr:∀i,i<TH->nW i≠.K4->Zz i≠a:=λ i hi hn e=>ap.v9 ⟨i,hi,hn,e⟩;have Kg:∀b,w9 (a_ o a) b->w9 G1 b\/b=a:=λ b zz=>nU zz λ i hi hx e=>by
  rcases lt i hi with hi|O
  ·rw[kE,w3 (ne i hi)]at hx;rw[IE i hi]at e;exact .S2 ⟨i,hi,hx,e⟩
  ·exact .L2 (xc (y3 O))
 obtain⟨h1,t1,e1⟩:=Pf;refine⟨⟨⟨Tn,Wm,On⟩,⟨λ i j hi hj ni nj e=>?_,λ i hi=>?_,λ i hi=>?_,λ i hi hx=>?_,DE⟩,VB,lE,WJ⟩,⟨h1,t1,e1⟩,IU.U2 le,λ b hb=>?_,mf,λ b ob e n1 n2 n3=>MX b ob e n1 n2 n3,JX,DX⟩
 ·rw[kE]at ni nj;rcases lt i hi with hi|O<;>rcases lt j hj with hj|O
  ·rw[w3 (ne i hi)]at ni;rw[w3 (ne j hj)]at nj;rw[IE i hi,IE j hj]at e;exact UG i j hi hj ni nj e
  ·rw[w3 (ne i hi)]at ni;rw[IE i hi]at e;exact U3 (e.U2 (y3 O)) (fr i hi ni)
  ·rw[w3 (ne j hj)]at nj;rw[IE j hj]at e;exact U3 (xc (y3 O)) (fr j hj nj)
  ·rfl
 ·rcases lt i hi with hi|O
  ·rw[kE,w3 (ne i hi),IE i hi];exact(HA i hi).E5 le (λ _ _ _ _ e=>e) (.M5 _) (λ ob e=>e) λ d l hd e=>⟨l,by rw[kE,w3 (ne d hd)];exact e⟩
  ·rw[kE,y3 O,show(a_ o a).ρ TH=a from y3 O];exact ho
 ·have NM:TH+1<=i:=hi;rw[kE,w3 (by omega)];exact kL i (by exact NP ‹_›)
 ·rcases lt i hi with hi|O
  ·rw[kE,w3 (ne i hi)]at hx;rw[IE i hi];exact yC i hi hx
  ·rw[show(a_ o a).ρ TH=a from y3 O];exact ap.mA
 ·rcases Kg b hb with q|O
  ·exact Tf b q
  ·exact .L2 hn
noncomputable abbrev y50(p1 p2 p3 p4 p5 p6 q1 q2 q3 q4 r1 r2 r3 r4:T3):P0 P5:=
 [.C1 (.C7 (.CD (.u3 "Exception" p1) "__init__" p2) [.u3 "self" p3,.u3 "message" p4] [] p5) p6,
  .PF [.CD (.u3 "self" q1) "message" q2] (.u3 "message" q3) q4,.PF [.CD (.u3 "self" r1) "spot" r2] (.u3 "spot" r3) r4]
structure AK(BF:S7 B g)(cl:C0->C0)(XB:ZE B T)where
 ini:C0
 Bw:XB.gH "__init__"=E0 (.J0 ini)
 p:Pm
 b:S
 fo:jQ B g cl ini p b
 pm:p=.N1 (vc "self") (.N1 (vc "message") (.XN (vc "spot") (.j0 (.O4 0)) .B0))
 P4:∃p1 p2 p3 p4 p5 p6 q1 q2 q3 q4 r1 r2 r3 r4,SX=y50 p1 p2 p3 p4 p5 p6 q1 q2 q3 q4 r1 r2 r3 r4/\Y1 p2.endLine p5.YH=I0
 Cw:n7 xI "self"=I0
 kN0:n7 xI "message"=I0
 Dw:n7 xI "spot"=I0
 Ew:E7 xI "Exception"=I0
 K8:VF "Exception"=H0/\UJ "Exception"=E0 (.U0 "Exception")
theorem z50:OA (.U0 "Exception") "message"=L4 H0:=by rw[kt,Qr];kernel_rfl
theorem lN0:OA (.U0 "Exception") "spot"=L4 H0:=by rw[kt,Qr];kernel_rfl
theorem Fw:kG=vc "message":=by decide +F7
theorem mN0:qK=vc "spot":=by decide +F7
theorem nN0:A5 "self"=I0:=by decide +F7
theorem Gw:A5 "message"=I0:=by decide +F7
theorem oN0:A5 "spot"=I0:=by decide +F7
structure Made(B:Bs)(A:C6)(G:Gh)(s:D1)(e:H1)(k:XK)(fl:PV)(s':D1)(D:H1):Prop where
 st:A3 B (λ b=>b=e) G s G s'
 gd:J1 B A G s'
 QF:∃T,VL e=E0 (AA y4 (E0 D) (uQ T))
 newD:F3 D=H0
 Rk:x8 B G U6 D
 ZJ:∃V2 o,VL D=E0 o/\H4=.U0 "dict"/\U6.Sm D (uF V2)/\(lN (·.1)).JD/\U8 G U6 fl V2
theorem pN0(BF:S7 B g){XB:ZE B T}(XI:AK BF cl XB){k:XK}(E8:∀h,YD B h->zA h k XB.l)(FQ:∀n∈MN,ZG n=H0)(ES:n9 N0 XI.xI)(gd:J1 B A G s){i:C0}{m q:PV}
  (er:V5 B N0 D0 (dJ .B0 (.kv (vc "self") (.J0 i) (.kv (vc "message") m (.kv (vc "spot") q .B0)))) G W0){T0:H1}(he:F3 (Y2 i)=E0 (AA y4 H0 (uQ T0)))(ap:x8 B G W0 (Y2 i))
  (hL:NA≠Y2 i)(hC:∀y c,mF y=E0 c->c≠Y2 i){Q:OJ->D1->Prop}{E:K0->D1->Prop}
  (hq:∀s' D,Made B A G s (Y2 i) k (.kv kG m (.kv qK q .B0)) s' D->Q .W4 s'):V0 R2 A (mC XI.SX N0) Q E s:=by
 obtain⟨p1,p2,p3,p4,p5,p6,q1,q2,q3,q4,r1,r2,r3,r4,fz,hline⟩:=XI.P4;rw[fz];generalize Hw:dJ .B0 (.kv (vc "self") (.J0 i) (.kv (vc "message") m (.kv (vc "spot") q .B0)))=O0 at er;have l1:I4 (vc "self") O0=E0 (.J0 i):=by rw[<-Hw];rfl
 have l2:I4 (vc "message") O0=E0 m:=by rw[<-Hw];rfl
 have l3:I4 (vc "spot") O0=E0 q:=by rw[<-Hw];rfl
 have qN0:Nw N0=R0:=by unfold Nw;rw[iP];rfl
 have Iw:∀{s:D1}{p:T3}{K:K0->D1->Prop},V5 B N0 D0 O0 G W0->K (.J0 (Y2 i)) s->V0 R2 A (Q5 (.u3 "self" p) N0) K E s:=λ er h=>
  uI ES er nN0 XI.Cw l1 λ u ru=>by obtain⟨_,O⟩:=ru;exact h
 have Sk:∀{s1 s2:D1},A3 B (λ b=>b=Y2 i) G s1 G s2->V5 B N0 D0 O0 G pE->V5 B N0 D0 O0 G TN:=λ st er=>Ga st hL λ y c h=>hC y c h;have nb:∀{o:D4},o=AA y4 H0 (uQ T0)\/rP->rP:=λ _=>FE;have one:∀{s1:D1}{pH:Q1 H1}{vs:M4 K0}{h':O1}{tk:P6},J1 B A G s1->x8 B G pE (Y2 i)->IJ (Y2 i)=E0 (AA y4 pH vs)->(∀b o,b≠Y2 i->IJ b=E0 o->D3 b=E0 o)->(∃o,D3 (Y2 i)=E0 o)->
   J1 B A G {s1 with B3:=h',B4:=tk}/\A3 B (λ b=>b=Y2 i) G s1 G {s1 with B3:=h',B4:=tk}:=λ g1 Jw AZ hk ho=>
  VB0 (W:=[Y2 i]) g1 (λ b hb=>by
   rw[vT hb];refine⟨Jw,O,λ o e=>?_⟩;obtain O:=I3 (AZ.ZZ e);exact⟨Ui,Ui,Ui,λ _=>Ui⟩) (λ b o hb e=>hk b o (λ q=>hb (by rw[q];exact Pi O)) e) λ b hb=>by rw[vT hb];exact ho
 refine AB (G90 ?_ qN0 O);refine S0 (ui ES.ji (jV BF ES gd XI.K8 XI.Ew (by decide) (S0 (BB ?_))));unfold dV0;unfold YW0;refine S0 (A8 (hN0 ?_));dsimp only;refine S0 ?_;rw[y3 (by rw[show(p2.endLine==p5.YH)=I0 by simpa using M6 hline];rfl)];have vO:=NJ (X4+1);refine E2 (AJ (by rfl) (BJ (by rfl) ?_));refine zD (Iw (Sk (vO.2.E5 λ _ q=>Q6) er) ?_);refine zD (uI ES (Sk (vO.2.E5 λ _ q=>Q6) er) Gw XI.kN0 l2 λ um rum=>JJ ⟨sV,?_⟩);obtain⟨hh,gg,dd,tt,os⟩:=s;refine jN0 (E8 _ IC) he λ h1 AZ qI=>?_;obtain⟨g1,C2⟩:=one (tk:=tt+1) gd ap he qI ⟨_,AZ⟩;have D9:=Sk C2 er;have Jw:=ap.K6 C2;have n1:("__setattr__":u0)∈MN:=.x7 _ (.x7 _ (.J8 _));have n2:("message":u0)∈MN:=.x7 _ (.x7 _ (.x7 _ (.J8 _)));have n3:("spot":u0)∈MN:=.x7 _ (.x7 _ (.x7 _ (.x7 _ (.J8 _))));refine AB (eS0 (uI ES D9 Gw XI.kN0 l2 λ um rum=>Iw D9 ?_));refine dN0 (E8 _ b00) (FQ _ n1) (FX _ n1) (FQ _ n2) (FX _ n2) z50 AZ λ h2 tk2 rN0=>?_;obtain⟨Xd,iX,VO,eG⟩:=rN0;have Kw:h1.X5 PR=H0:=TE (B8 _);have Lw:PR≠Y2 i:=λ q=>by rw[<-q,Kw]at AZ;contradiction
 obtain⟨g2,I2⟩:=one (h':=h2) (tk:=tk2) g1 Jw AZ (λ b o hb e=>eG b o hb (λ q=>by rw[q,Kw]at e;contradiction) e) ⟨_,Xd⟩;have R6:=Sk I2 D9;have Rk:x8 B G h2 PR:=LX g1 (B8 _) (by obtain⟨o,e,_⟩:=VO;exact⟨o,e⟩);refine AB (eS0 (uI ES R6 oN0 XI.Dw l3 λ uq ruq=>Iw R6 ?_));refine eN0 (ns:=["message"]) (E8 _ kU) (FQ _ n1) (FX _ n1) (FQ _ n3) (FX _ n3) lN0 Xd iX VO Lw (λ y hy=>?_) (by decide) λ h3 Mw sN0=>?_
 ·by_cases hy':y="message"
  ·rw[hy'];exact Pi O
  ·exact U3 (w3 hy') hy
 obtain⟨BZ,hn3,UT,bQ⟩:=sN0;obtain⟨oD,qV,rV⟩:=VO;have g3':=VB0 (F:=λ b=>b=PR) (W:=[PR]) (h':=h3) (tk:=Mw) g2 (λ b hb=>by
   rw[vT hb];exact⟨Rk,O,uY qV rV (by decide)⟩) (λ b o hb e=>by
   have hb:b≠PR:=λ q=>hb (by rw[q];exact Pi O);by_cases q:b=Y2 i
   ·subst q;rw[Xd]at e;obtain O:=I3 e;exact BZ
   ·exact bQ b o q hb e) (λ b hb=>by rw[vT hb];exact by obtain⟨o,e,_⟩:=UT;exact⟨o,e⟩)
 obtain⟨g3,U5⟩:=g3';have hDs:jf PR=H0:=by
  cases e:jf PR with
  |H0=>rfl
  |E0 o=>obtain⟨o',e'⟩:=s00 _ o e;rw[Kw]at e';contradiction
 refine KP (hq _ PR ⟨?_,g3,⟨_,BZ⟩,hDs,Rk.K6 U5,?_⟩)
 ·refine((((FC I2).E5 (F':=λ b=>b=Y2 i\/b=PR) λ b hb=> .S2 hb).U2 (i00 λ b hb=> .L2 hb))).TF λ b hb=>hb.QM id λ q=>?_;rw[q];exact hDs
 ·obtain⟨o3,ho3,hc3⟩:=UT;refine⟨[("message",um),("spot",uq)],o3,ho3,hc3,?_,by show([("message":u0),"spot"]).JD;decide +F7,?_⟩
  ·have em:(λ y=>if y=("spot":u0)then E0 uq else if y=("message":u0)then E0 um else H0)=uF [(("message":u0),um),("spot",uq)]:=im λ y=>by
    rw[JT,JT];by_cases h1:y="spot"
    ·rw[y3 h1,w3 (λ q=>by rw[h1]at q;revert q;decide +F7),y3 h1.Z3]
    ·rw[w3 h1];by_cases h2:y="message"
     ·rw[y3 h2,y3 Q00]
     ·rw[w3 h2,w3 (H9 h2),w3 (H9 h1)];rfl
   rw[<-em];exact hn3
  ·refine⟨"message",um,_,O,by decide +F7,by rw[Fw],(rum.K6 I2).K6 U5,"spot",uq,_,O,by decide +F7,by rw[mN0],ruq.K6 U5,O⟩
end
section
open PyProof.Rows
variable{B:Bs}{A:Around}{G G':Gh}{s s':Shared}{F:Addr->Prop}{FZ:Nat->Bool}
variable{g:Nat->Option PV}{cl:Nat->Nat}{n:Nat}{ih:C5}{T:Tab}{cenv:Env}{L:Kinds}{env:PV}{k:Nat}
theorem tN0{o:AO}{a b:H1}(h:w9 (r7 o a) b):w9 G b\/b=a:=by
 obtain⟨i,hi,hx,e⟩:=h;rcases ch hi with hi|O
 ·rw[kE,w3 (ZC hi)]at hx;rw[(qU o a).ρ i hi]at e;exact .S2 ⟨i,hi,hx,e⟩
 ·exact .L2 (xc (y3 O))
theorem uN0{L1 fl:PV}(h:Lh L1=E0 fl){G:Gh}{hp:O1}{L5:P0 K0}(r:A4 G hp L1 L5):∃m q,fl=.kv kG m (.kv qK q .B0)/\JK<=2/\
  ∀i,(Pm.N1 (vc "self") (.N1 (vc "message") (.XN (vc "spot") (.j0 (.O4 0)) .B0))).S6 (.A0 (.J0 i) L1)=E0 (.kv (vc "self") (.J0 i) (.kv (vc "message") m (.kv (vc "spot") q .B0))):=by
 obtain⟨x,hx,h⟩:=WS h;rw[MQ hx]at r ⊢;obtain⟨v,l,O,_,r2⟩:=r;rcases F20 h with⟨hn,h⟩|⟨_,h⟩
 ·rw[HV hn]at r2 ⊢;have r2:l=[]:=r2;subst r2;exact⟨x.1,_,(I3 h).Z3,UN 1,λ i=>O⟩
 ·obtain⟨y,hy,h⟩:=WS h;obtain⟨hn,h⟩:=UC h;rw[MQ hy,HV hn]at r2 ⊢;obtain⟨v2,l2,O,_,r3⟩:=r2;have r3:l2=[]:=r3;subst r3;exact⟨x.1,y.1,(I3 h).Z3,B8 2,λ i=>O⟩
theorem A60(BF:S7 B g){XB:ZE B T}(XI:AK BF cl XB){c:C0}(hc:Y9 T c=I0)(gd:J1 B A G s)(CZ:fR+20<=cZ){cx:I1}{L1 fl:PV}{L5:P0 K0}(r:A4 G W0 L1 L5)(hf:Lh L1=E0 fl):
  V4 B RV F A (Ib cx c fl) (X7 (.J0 c) L5) G s:=by
 intro P X M0;obtain⟨k,O,Z6,E8,hki,FQ⟩:=UU c hc;obtain⟨m,q,O,fH,hbind⟩:=uN0 hf r;have LS:=IC tA0 LJ.o XI.Uo XI.Oo (by rw[Bo];decide) (by rw[Bo];decide);have gdk:=gd;obtain⟨hh,gg,dd,tt,os⟩:=s;refine SN0 (E8 _ IC) hki XI.Bw LS Bo (by rw[LI];exact KM ‹_› O) ?_;have kp:∀b o,jf b=E0 o->(DJ hh y4 L5).X5 b=E0 o:=λ b o e=>T6 _ (T6 _ e);have hen:jf (YA+1)=H0:=TE (UN _);obtain⟨g2,I2⟩:=Vf (o:=.K4) (a:=YA+1) (h':=DJ hh y4 L5) (tk:=tt) kp hen (ms U_) FE;have wH:(r7 .K4 (YA+1)).ρ J3=YA+1:=y3 O;have BG:(DJ hh y4 L5).X5 (YA+1)=E0 (AA y4 H0 (uQ YA)):=by
  show((hh.y6 _).y6 _).X5 _=_
  heap_get
 have re:H3 (r7 .K4 (YA+1)) (DJ hh y4 L5) (.J0 J3) (.J0 (YA+1)):=⟨TD _,by rw[wH]⟩;have rl:A4 (r7 .K4 (YA+1)) (DJ hh y4 L5) (.A0 (.J0 J3) L1) (.J0 (YA+1)::L5):=⟨_,_,O,re,MB0 r (qU ..) λ b vs n _ e=>kp _ _ e⟩;have apE:x8 B (r7 .K4 (YA+1)) (DJ hh y4 L5) (YA+1):=by
  refine⟨λ x=>?_,TE (ms U_),(aN gd (UN _)).2.2,_,BG⟩;rcases I2.v9 _ x with y|y
  ·exact(aN gd (UN _)).1 y
  ·obtain⟨i,hi,hx,e⟩:=x;rw[kE]at hx;by_cases z:i=J3
   ·rw[y3 z]at hx;exact hx O
   ·rw[w3 z]at hx;have NM:i<J3:=by
     have:i<J3+1:=hi;exact ω63 ‹_› ‹_›
    rw[(qU .K4 (YA+1)).ρ i NM]at e;exact(aN gd (UN _)).1 ⟨i,NM,hx,e⟩
 have ho:=kU tA0 LJ.o XI.Uo XI.Oo (by rw[Bo];decide) (by rw[Bo];decide);have hb:=hbind J3;rw[<-XI.pm]at hb;obtain⟨bs,rb,Tu,bt⟩:=LJ.kD kU (λ a ha=>(g2.E80 a ha).1) hb rl;refine xZ (tS0 (by show fR+1<_;exact ω79 ‹_›) ho XI.D10 LJ.co LJ.gen LJ.Pu (LJ.Ru _ kU) ?_);refine bt _ _ _ _ ?_;rw[LJ.Qu];have Uk:J1 B (gR (.Z4 "type.__call__" ⟨.J0 y4::L5,[]⟩)) (r7 .K4 (YA+1)) ⟨DJ hh y4 L5,gg,dd,tt,os⟩:=sZ g2 d40;refine X40 (A:=(gR (.Z4 "type.__call__" ⟨.J0 y4::L5,[]⟩)).in1) (L:=XI.xI) (Uk.around O) LJ.nL LJ.dE LJ.pF LJ.zc O LJ.Su LJ.l6 rb Tu λ N0 s3 EK C9 hfu hmod U5 g3 sD JS hF=>?_;refine⟨j90 _ g3.mA,pU0 ?_⟩;have gc:J1 B ((gR (.Z4 "type.__call__" ⟨.J0 y4::L5,[]⟩)).XW N0) (r7 .K4 (YA+1)) s3:=(sZ (A':=gR (.Z4 "type.__call__" ⟨.J0 y4::L5,[]⟩)) g3 O).XW hmod C9 JS sD.Nc.2.1;have hgp:F5=(r7 .K4 (YA+1)).av:=O;have Ow:s3.FV (YA+1)=E0 (AA y4 H0 (uQ YA)):=apE.MC U5 (λ q=>q) BG (by simp) (by simp);have ap3:=apE.K6 U5;refine V3 (pN0 (E:=λ _ _=>J6) BF XI E8 FQ EK gc sD (by rw[wH];exact Ow) (by rw[wH];exact ap3) (λ e=>?_) (λ y c hyc e=>?_) (Q:=λ f s'=>f=.W4/\∃D,Made B ((gR (.Z4 "type.__call__" ⟨.J0 y4::L5,[]⟩)).XW N0) (r7 .K4 (YA+1)) s3 (YA+1) k (.kv kG m (.kv qK q .B0)) s' D) λ s' D md=>⟨O,D,by rw[wH]at md;exact md⟩) (λ f s' zz=>EO zz λ vo zz=>DM zz λ D md=>?_) λ _ _ h=>u4
 ·rw[wH]at e;have:=hF NA (.S2 O);rw[e]at J2;rw[show(DJ hh y4 L5).X5 (YA+1)=H0 from J2]at BG;contradiction
 ·rw[wH]at e;obtain⟨u,o,ho,hd⟩:=sD.ai y c hyc;rw[e,Ow]at ho;obtain O:=I3 ho;contradiction
 subst vo;obtain⟨l,hl,OO⟩:=gdk.fr;have Vk:A3 B F G ⟨hh,gg,dd,tt,os⟩ (r7 .K4 (YA+1)) s':=by
  have:=((UP U5).E5 (F':=λ b=>b=YA+1) λ _ q=>Q6).U2 md.st;refine J2.TF λ b hb=> .L2 ?_;rw[hb];exact hen
 have gA:J1 B A (r7 .K4 (YA+1)) s':=md.gd.Uy hl (Un Vk.k3);have hD:jf D=H0:=by
  cases e:jf D with
  |H0=>rfl
  |E0 o=>
   obtain⟨o',e'⟩:=(UP U5).GE D o e;rw[md.newD]at e';contradiction
 have Lw:D≠YA+1:=λ e=>by
  have:=md.newD;rw[e,Ow]at J2;contradiction
 obtain⟨V2,oD,e1,e2,e3,e4,e5⟩:=md.ZJ;obtain⟨gB,stB⟩:=Qm (o:=.W6 (.kv kG m (.kv qK q .B0))) Vk gA hD md.Rk ⟨V2,oD,e1,e2,e3,e4,e5.E5 (Gh.BX0 ..) λ _ _ _ _ e=>e⟩;obtain⟨T1,he⟩:=md.QF;have vN0:x8 B ((r7 .K4 (YA+1)).SB (.W6 (.kv kG m (.kv qK q .B0))) D) U6 (YA+1):=by
  have:=ap3.K6 md.st;exact⟨λ x=>(tN0 x).KB J2.v9 λ e=>Lw td,J2.mA,J2.z,J2.l9⟩
 have wN0:(((r7 .K4 (YA+1)).SB (.W6 (.kv kG m (.kv qK q .B0))) D).SB (.K8 cx y4 (J3+1)) (YA+1)).ρ (J3+1)=D:=by
  show(if J3+1=J3+1+1 then _ else if J3+1=J3+1 then D else _)=D;rw[w3 (by omega),y3 O]
 obtain⟨gC,stC⟩:=Qm (o:=.K8 cx y4 (J3+1)) stB gB hen vN0 ⟨uQ T1,by rw[wN0];exact he,by show J3+1<J3+1+1+1;exact QG _ _,⟨_,by
   rw[kE,w3 (by show J3+1≠J3+1+1;omega),kE];exact y3 O⟩,⟨⟨by simp,λ _=>O⟩,.S2 O⟩⟩
 refine⟨O,_,.J0 (J3+2),stC,gC,⟨by show J3+2<J3+1+1+1;exact C0.lt_add_one _,?_⟩,M0⟩;show x6 _=x6 (if J3+2=J3+1+1 then YA+1 else _);rw[y3 O]
end
section
open PyProof.Rows
variable{B:Bs}{A:Around}{G G':Gh}{s s':Shared}{F:Addr->Prop}{FZ:Nat->Bool}
variable{g:Nat->Option PV}{cl:Nat->Nat}{n:Nat}{ih:C5}{T:Tab}{cenv:Env}{L:Kinds}{env:PV}{k:Nat}
theorem xN0(W2:u0)(o:D4):(aw W2 o).O2=H4:=by
 rw[dU0];unfold UT0;obtain⟨c,d,dt,sl⟩:=o;cases dt with
 |H2 es ep=>
  dsimp only;generalize W90 _=r;cases r using i9<;>rfl
 |_=>rfl
theorem yN0{W2:u0}{o:D4}{es:M4 YN}{ep:C0}(h:I9=.H2 es ep):∃Na Pc,(aw W2 o).M3=.H2 Na Pc:=by
 rw[dU0];unfold UT0;obtain⟨c,d,dt,sl⟩:=o;have h:dt=.H2 es ep:=h;subst h;dsimp only;generalize W90 _=r;cases r using i9<;>exact⟨_,_,O⟩
theorem zN0{M:YB}{a:H1}{m:u0->Q1 K0}{W2:u0}{Q:I1->D1->Prop}{E:K0->D1->Prop}(hn:s.nZ a m)(hm:(m W2).AM=I0)
  (h:∀h' o o',F3 a=E0 o->D3 a=E0 o'->YK=H4->(∃es ep,f_=.H2 es ep)->WA a W0 h'->Q I0 {s with B3:=h'}):V0 M A (nsDel a W2) Q E s:=by
 obtain⟨o,es,ep,ho,hd,hk,hf⟩:=id hn;have hany:zA0 (·.U7.Qz W2)=I0:=by
  symm;have h1:=hm;rw[<-hf W2]at h1;simp only[fm,nA0,Q1.isSome_map]at h1;rw[M4.find?_isSome]at h1;obtain⟨x,hx,hp⟩:=h1;obtain⟨i,hi,O⟩:=M4.mem_iff_getElem.mp hx;ext;exact M4.any_eq_true.C8 ⟨i,hi,hp⟩
 have hhas:nsHas W2 o=L4 I0:=by
  rw[nsHas_eq];unfold nsHasByArray;rw[hd];show(if(zA0 λ x=>x.U7.Qz W2)=I0 then _ else _)=_;rw[y3 hany]
 refine S0 (wpAny_loadPart ho ?_);rw[hhas];obtain⟨Na,Pc,eA⟩:=yN0 (W2:=W2) hd;have C9:(aw W2 o).isFreed=R0:=by
  revert eA;generalize aw W2 o=o2;intro q;obtain⟨c,d,dt,sl⟩:=o2;cases q;rfl
 exact S0 (E2 (S0 (wpAny_updatePart ho (E2 (h _ o _ ho (GH _ ho C9) (xN0 W2 o) ⟨Na,Pc,eA⟩ (.JF ..))))))
theorem FW0(ES:n9 N0 L)(gd:J1 B A G s)(er:V5 B N0 D0 O0 G W0){x:u0}(hx:A5 x=I0)(hl:G9 x=E0 .G7){D2:T3}{Q:T7->D1->Prop}{E:K0->D1->Prop}
  (h:∀s',A3 B (D5 N0 L) G s G s'->J1 B A G s'->(∀b o,b≠NA->F3 b=E0 o->VL b=E0 o)->Q () s'):V0 R2 A (do rW N0 x .H0;xS0 N0 x D2) Q E s:=by
 have kx:=pz x hl;have hp:(IP==.class||(IP==.vW&&NA !=WL))=R0:=by rw[iP];rfl
 symm;obtain⟨m,hm,_⟩:=lU;obtain⟨oL,es,ep,eL,dL,-⟩:=id hm;ext;refine S0 (F90 ?_);rw[z80 kx hp];refine Zs hm λ h1 hn1 mH rg=>?_;refine iZ ?_;refine S0 (Y90 (S0 ?_));unfold deleteName;rw[kx,hp];refine S0 (zN0 hn1 (by rw[y3 O];rfl) λ h2 o o' ho IS hc hd hs=>?_);refine SI PG ?_;symm;obtain⟨oL1,e1,c1⟩:=rg _ eL;rw[ho]at e1;obtain O:=I3 e1;obtain⟨es2,ep2,d2⟩:=hd;have kH:=mH.U2 hs;obtain⟨g2,I2⟩:=J1.Xs (F:=D5 N0 L) (h':=h2) (tk:=X4+1) gd kP.1 kP.2.1 kP.2.2 (λ b o hb e=>kH.sK b o hb e) ⟨oL,eL,(λ vs n q=>by rw[q]at dL;contradiction),(λ vs q=>by rw[dL]at q;contradiction),o',IS,hc.U2 c1,(λ vs q=>by rw[d2]at q;contradiction)⟩ (.S2 O);ext;exact E2 (Y90 (h _ I2 g2 λ b o hb e=>kH.sK b o hb e))
theorem Pw(gd:J1 B A G s){r c d:C0}(hr:r<J3)(hx:P3 r=.K8 I0 c d){j:C0}(hj:j≠1)(hj4:j<=4){v:K0}{Q:T7->D1->Prop}{E:K0->D1->Prop}{A':C6}
  (h:∀s',xM B A G s s'->Q () s'):V0 R2 A' (Ye (.J0 (Y2 r)) j v) Q E s:=by
 obtain⟨vs,he,t⟩:=mT gd hr hx;have Z7:j<vs.L9:=vi hj4 t.1.1;have UT:=aZ (o:=AA c (E0 (Y2 d)) vs) O (·.II j v);have me:=GH (gZ (·.II j v)) he (ka UT);have ob:=cL r hr;rw[hx]at ob;obtain⟨_,_,UO,iQ,_⟩:=ob;have m:=gd.lA0 (h':=UL (Y2 r) (gZ (·.II j v))) (tk:=X4) hr (by rw[hx];simp) (λ b o hb e=>by rw[hM _ _ (H9 hb)];exact e) (by
  rw[hx];refine⟨vs.II j v,me,UO,iQ,⟨by simpa using t.1.1,λ q=>by contradiction⟩,?_⟩;have e1:(vs.II j v)[1]?=vs[1]?:=by simp[hj]
  rw[e1];refine t.2.QM id λ z=>?_;obtain⟨Tb,oT,ts,h1,h2,h3,h4,h5⟩:=z;refine⟨Tb,oT,ts,h1,?_,h3,h4,h5⟩;rewrite [hM _ _ (λ q=>?_)]
  ·exact h2
  ·rw[<-q,he]at h2;obtain O:=I3 h2;contradiction)
 exact LR he O Z7 (h _ ⟨m.1,m.2⟩)
theorem AO0:MA0 table "proto.unchain"=E0 MA.«proto.unchain»:=eT0 (by kernel_rfl)
theorem BO0{e h:H1}{cx:Q1 H1}{C:H1}{vs:M4 K0}(hh:F3 h=E0 (AA C cx vs))(h2:vs[2]?=E0 .H0){Q:K0->D1->Prop}{E:K0->D1->Prop}(hq:Q .H0 s):
  V0 R2 A (runValue (.Z4 "proto.unchain" ⟨[.J0 e,.J0 h,.J0 h,.O3 R0],[]⟩)) Q E s:=by
 refine HU0 (QW AO0 ?_);refine S0 (N7 hh O h2 ?_);first
  |exact E2 hq
  |exact E2 (E2 hq)
theorem CO0(XB:ZE B T){x c:Y7 K0}{i:C0}(hA:F9=E0 (.J0 (Y2 i)))(hi:i<J3){ci di:C0}(iB:P3 i=.K8 R0 ci di){Q:OJ->D1->Prop}{E:K0->D1->Prop}
  (h:V0 R2 A x (λ v s1=>V0 R2 A c (λ w s2=>w=.H0/\∃G2 r cr dr,v=.J0 (BX r)/\J1 B A G2 s2/\r<Xo/\zn r=.K8 I0 cr dr/\Y9 T cr=I0/\zn i=.K8 R0 ci di/\FO G2/\∀s3,xM B A G2 s2 s3->E v s3) E s1) E s):
  V0 R2 A (Im N0 (E0 x) (E0 c)) Q E s:=by
 unfold Im;refine S0 (V3 h (λ v s1 h1=>?_) λ _ _ x=>x);refine S0 (A8 (V3 h1 (λ w s2 h2=>S0 (E2 ?_)) λ _ _ x=>x));symm;obtain⟨O,G2,r,cr,dr,O,g2,hr,vQ,Qw,Rw,le,hE⟩:=h2;obtain⟨k,O,_,E8,_⟩:=UU cr Qw;obtain⟨vs,he,t⟩:=mT g2 hr vQ;obtain⟨hp,gg,dd,tk,os⟩:=s2;ext;refine S0 (A8 (r50 (E8 _ kU) he ?_));refine S0 (E2 (S0 (Pw g2 hr vQ (by decide) (by decide) λ s3 U5=>S0 (Pw U5.1 hr vQ (by decide) (by decide) λ s4 wA=>?_))));symm;obtain⟨vs4,Xk,t4⟩:=mT wA.1 hr vQ;obtain⟨hp4,gg4,dd4,tk4,os4⟩:=s4;ext;refine S0 (s50 Xk ?_);refine SI PG ?_;refine S0 (t50 (E8 _ wA.1.mA) Xk ?_);refine S0 (gQ wA.1 ⟨hr,O,_,_,_,vQ⟩ λ s5 NN=>?_);unfold raiseNew;refine S0 (mv ?_);rw[hA];symm;have mX:i<Xo:=W8 hi Bf;have Z6:BX i≠BX r:=λ q=>by
  have:=g2.pp i r mX hr (by rw[Rw];simp) (by rw[vQ];simp) q;subst J2;rw[Rw]at vQ;cases vQ
 ext;rw[<-IE i hi,y3 (by simpa using Z6)];obtain⟨vsi,hei,ti⟩:=mT NN.1 mX Rw;refine S0 (A8 (BO0 hei (ti.1.2 O) ?_));refine S0 (Pw (j:=2) (v:=.J0 (BX i)) NN.1 hr vQ (by decide) (by decide) λ s6 Sw=>tZ (hE _ ?_));exact((qn wA).U2 NN).U2 Sw
end
section
open PyProof.Rows
variable{B:Bs}{A:Around}{G G':Gh}{s s':Shared}{F:Addr->Prop}{FZ:Nat->Bool}
variable{g:Nat->Option PV}{cl:Nat->Nat}{n:Nat}{ih:C5}{T:Tab}{cenv:Env}{L:Kinds}{env:PV}{k:Nat}
theorem B60(BF:S7 B g)(ES:n9 N0 L)(gd:J1 B A G s){x:u0}{D2:T3}{a:C0}(hn:A5 x=I0)(hl:E7 L x=I0)(hp:g (vc x)=E0 (.Y0 a)){K E:K0->D1->Prop}(hK:K (.J0 a) s):
  V0 R2 A (Q5 (.u3 x D2) N0) K E s:=by
 symm;obtain⟨n1,n2,n3⟩:=DL hn;have q:=Zq hl;obtain⟨v,hv,hr⟩:=BF.lm x _ hn hp;have hva:v=.J0 a:=hr _ _ IC λ a ha=>(ln a ha).1;subst hva;ext;refine Z80 iP (WA0 x q) (OT0 (mg:=VF) ?_ hv hK) n1;rw[Go];exact am _ IC
theorem DO0(gd:J1 B A G s){i:C0}(hi:i<J3){cx:I1}{c d:C0}(h:P3 i=.K8 cx c d){m:PV}(hm:I4 kG (Cq R1 (P3 i))=E0 m):
  ∃mm u,W0.Sm (Y2 d) mm/\mm "message"=E0 u/\H3 G W0 m u:=by
 symm;have ob:=cL i hi;rw[h]at ob;obtain⟨vs,e,hd,⟨l,hl⟩,_⟩:=ob;have od:=cL d hd;rw[hl]at od;obtain⟨V2,o,eo,hc,hn,nd,r⟩:=od;have hm:I4 kG l=E0 m:=by
  symm;rw[h]at hm;change I4 kG (Bq (P3 d))=E0 m at hm;ext;rw[hl]at hm;exact hm
 rw[Fw]at hm;rcases MT (DL Gw).2.2 r with⟨q1,q2⟩|⟨p,u,q1,q2,ru⟩
 ·ext;rw[hm]at q1;contradiction
 ·rw[hm]at q1;obtain O:=I3 q1;ext;exact⟨_,u,hn,q2,ru⟩
theorem EO0(BF:S7 B g){XB:ZE B T}(XI:AK BF cl XB)(ES:n9 N0 L)(gd:J1 B A G s)(er:V5 B N0 D0 O0 G W0)(CZ:fR+20<=cZ){i:C0}(hi:i<J3){cx:I1}{c d:C0}(iB:P3 i=.K8 cx c d)(hc:Y9 T c=I0)
  {dn x y:u0}{dp xp ap yp cp:T3}{dd:C0}(UO:A5 dn=I0)(EQ:E7 L dn=I0)(hdg:g (vc dn)=E0 (.Y0 dd))(iQ:Y9 T dd=I0)(hx:A5 x=I0)(Yd:n7 L x=I0)(hxv:I4 (vc x) O0=E0 (.J0 i))
  {m p:PV}(hm:I4 kG (Cq R1 (P3 i))=E0 m)(hy:A5 y=I0)(hyl:n7 L y=I0)(hyv:I4 (vc y) O0=E0 p){P:PV->K1->Prop}{Q:C0->K1->Prop}(M0:(Ib I0 dd (.kv kG m (.kv qK p .B0)) R1).P1 P Q):
  V0 R2 A (Q5 (.C7 (.u3 dn dp) [.CD (.u3 x xp) "message" ap,.u3 y yp] [] cp) N0) (Po B RV N2 A G s P) (Px B N2 A G s Q) s:=by
 obtain⟨k,O,_,E8,_,FQ⟩:=UU c hc;obtain⟨kd,hkd,_,FO0,_,CX0⟩:=UU dd iQ;have n1:("__getattribute__":u0)∈MN:=.J8 _;have n2:("__getattr__":u0)∈MN:=.x7 _ (.J8 _);have n3:("message":u0)∈MN:=.x7 _ (.x7 _ (.x7 _ (.J8 _)));obtain⟨mm,u,cG,hmu,ru⟩:=DO0 gd hi iB hm;obtain⟨vs,he,_⟩:=mT gd hi iB;refine mM (B60 BF ES gd UO EQ hdg (AJ (by rfl) (BJ (by rfl) ?_)));have vO:=NJ (X4+1);have Z1:∀{K:K0->D1->Prop}{E:K0->D1->Prop},K u {s with B4:=X4+1}->V0 R2 A (Q5 (.CD (.u3 x xp) "message" ap) N0) K E s:=λ{K E} hK=>by
  refine S0 (ui ES.ji (uI ES er hx Yd hxv λ w oX=>?_));obtain⟨_,O⟩:=oX;obtain⟨hp,gg,dd,tk,os⟩:=s;refine S0 (BB (S0 (A8 (gN0 (E8 _ IC) (FQ _ n1) (FX _ n1) (FQ _ n2) (FX _ n2) (FQ _ n3) (FX _ n3) z50 he cG hmu (Yu ru) ?_))));exact S0 (c80 (E2 hK))
 refine zD (Z1 ?_);have D9:=HI vO.2;refine zD (uI ES D9 hy hyl hyv λ w oX=>JJ ⟨?_,?_⟩)
 ·intro A' Q' E' PM;rw[<-hkd];exact q50 (FO0 _ IC) (PM _ (.L2 (.S2 O)))
 ·exact(A60 (F:=N2) BF XI iQ vO.1 CZ (L1:=.A0 m (.A0 p .B0)) (L5:=[u,w]) ⟨u,[w],O,SK vO.2,w,[],O,oX,O⟩ O).I8 vO.2 M0
end
section
open PyProof.Rows
variable{B:Bs}{A:Around}{G G':Gh}{s s':Shared}{F:Addr->Prop}{FZ:Nat->Bool}
variable{g:Nat->Option PV}{cl:Nat->Nat}{n:Nat}{ih:C5}{T:Tab}{cenv:Env}{L:Kinds}{env:PV}{k:Nat}
theorem C60{α:Type}{what:V6}(gd:J1 B A G s){i:C0}{e:K0}(xi:vG G i e)(tb:zM G W0 i){Q:α->D1->Prop}{E:K0->D1->Prop}{A':C6}(h:∀s',xM B A G s s'->E e s'):V0 R2 A' (oW0 what e N0:Y7 α) Q E s:=by
 obtain⟨c,d,vs,Tb,hv,h1⟩:=tb;have Rd:=xi;obtain⟨hi,O,_⟩:=Rd;refine S0 (N7 hv O h1 ?_);have O6:V0 R2 A' (Re (.J0 (Y2 i)) lW>>=λ _=>(throw (.J0 (Y2 i)):Y7 α)) Q E s:=S0 (gQ gd xi λ O7 nC=>tZ (h _ nC));first
  |exact O6
  |exact S0 (E2 O6)
theorem Tw(gd:J1 B A G s){h:Q1 K0}:J1 B (lR h) G s:=t90 O
theorem Uw{h:Q1 K0}(gd:J1 B (lR h) G s):J1 B A G s:=t90 (A:=lR h) O
theorem GO0(BF:S7 B g){XB:ZE B T}(XI:AK BF cl XB)(es:wG A N0 L)(gd:J1 B A G s)(er:V5 B N0 D0 O0 G W0)(CZ:fR+20<=cZ){i:C0}(hi:i<J3){c d:C0}(iB:P3 i=.K8 R0 c d)(hc:Y9 T c=I0)
  {dn x y:u0}{dp xp ap yp cp np rp D2:T3}{j:C0}{dd:C0}(UO:A5 dn=I0)(EQ:E7 L dn=I0)(hdg:g (vc dn)=E0 (.Y0 dd))(iQ:Y9 T dd=I0)(hx:A5 x=I0)(Yd:G9 x=E0 .G7)
  (hy:A5 y=I0)(hyl:n7 L y=I0)(hxy:x≠y){P:Fl->K1->Prop}{Q:C0->K1->Prop}(M0:(Uq i dd (vc "message") (vc y) O0 R1).P1 P Q){R:BM->D1->Prop}(hR:∀e s',ww R2 A N0 (Px B (D5 N0 L) A G s Q) e s'->R (.LD e) s'):
  JC R2 (lR (E0 (.J0 (Y2 i)))) (.NA0 (.J0 (Y2 i)) [.xD H0 (E0 x) [.pR (E0 (.C7 (.u3 dn dp) [.CD (.u3 x xp) "message" ap,.u3 y yp] [] cp)) (E0 (.H8 .H0 j np)) rp] D2] N0) R s:=by
 obtain⟨m,hm,M0⟩:=u9 (j6 M0);obtain⟨p,hp,M0⟩:=u9 (j6 M0);have M0:=j6 M0;rw[<-Fw]at hm;have QC:z6 L x=I0:=by unfold z6;rw[Yd]
 have AS:n7 L x=I0:=by unfold n7;rw[Yd]
 have ES:=Fh;have gm:J1 B (lR (E0 (.J0 (Y2 i)))) G s:=Tw gd;refine codeAny_handlers_suite_as ?_;refine gQ gm ⟨hi,O,_,_,_,iB⟩ λ s1 wO=>?_;have D9:=HI wO.2;refine lV ES wO.1 D9 hx QC (p:=.J0 i) ⟨hi,O⟩ (λ b q=>q) λ s2 I2 g2 R6=>?_;have R6:=R6.Lu (D':=D0) λ y hy=>hy.1;have Zd:A3 B (D5 N0 L) G s G s2:=(wO.2.E5 λ _ q=>Q6).U2 I2;refine AB ?_;have tree:((evalOpt (E0 (C1.C7 (.u3 dn dp) [.CD (.u3 x xp) "message" ap,.u3 y yp] [] cp)) N0).Y4 λ x=>(do let v <-x;UK rp;L4 v:Y7 K0))=E0 (do let v <-Q5 (.C7 (.u3 dn dp) [.CD (.u3 x xp) "message" ap,.u3 y yp] [] cp) N0;UK rp;L4 v):=by rfl
 have DX0:((evalOpt (E0 (C1.H8 .H0 j np)) N0).Y4 λ x=>(do let v <-x;UK rp;L4 v:Y7 K0))=E0 (do let v <-Q5 (.H8 .H0 j np) N0;UK rp;L4 v):=by rfl
 have main:V0 R2 (lR (E0 (.J0 (Y2 i)))) (Im N0 (E0 (do let v <-Q5 (.C7 (.u3 dn dp) [.CD (.u3 x xp) "message" ap,.u3 y yp] [] cp) N0;UK rp;L4 v)) (E0 (do let v <-Q5 (.H8 .H0 j np) N0;UK rp;L4 v)))
   (λ _ _=>J6) (λ e s3=>∃G3 r,A3 B N2 G s2 G3 s3/\J1 B (lR (E0 (.J0 (Y2 i)))) G3 s3/\vG G3 r e/\Q r Ia) s2:=by
  refine CO0 XB (G:=G) (i:=i) O hi iB ?_;refine S0 (V3 (EO0 BF XI ES g2 R6 CZ hi iB hc UO EQ hdg iQ hx AS (by rw[ZD,y3 O]) hm hy hyl (by rw[ZD,w3 (λ q=>hxy (mO q (DL hy).2.2).Z3)];exact hp) (P:=λ v σ=>∃r,v=.J0 r/\Q r σ/\(∃cr dr,CA r=.K8 I0 cr dr/\Y9 T cr=I0)/\CA i=.K8 R0 c d) (Q:=λ _ _=>J6) ?_) (λ v s3 po=>?_) λ e s3 Z2=>by obtain⟨_,_,_,_,_,h⟩:=Z2;exact u4)
  ·have hQ:Q (J3+2) (((qL .K4).SB (.W6 (.kv kG m (.kv qK p .B0)))).SB (.K8 I0 dd (J3+1))):=M0;refine⟨J3+2,O,hQ,⟨dd,J3+1,?_,iQ⟩,?_⟩
   ·rw[S_];exact y3 O
   ·rw[S_,w3 (by show i≠J3+1+1;omega),S_,w3 (by show i≠J3+1;omega),S_,w3 (by omega)];exact iB
  ·obtain⟨G3,a,U5,g3,ra,r,O,hQ,⟨cr,dr,Yk,Qw⟩,hi3⟩:=po;obtain⟨hr,O⟩:=ra;refine S0 (BB (E2 (S0 (WN (a:=IF) O (S0 (BB (E2 ?_)))))));exact⟨O,G3,r,cr,dr,O,g3,hr,Yk,Qw,hi3,U5.le,λ s4 nC=>⟨G3,r,qn nC.2,nC.1,⟨hr,O,_,_,_,Yk⟩,hQ⟩⟩
 refine S0 (BB (V3 main (λ _ _ h=>u4) ?_));intro e s3 Z2;obtain⟨G3,r,U5,g3,xi,hQ⟩:=Z2;obtain⟨L0,e0,cK,C9,hf,bG⟩:=es.HD;refine iY g3 xi C9 hf (λ s4 Vw tb4=>?_) O bG;have yY:V5 B N0 D0 (A6 (vc x) (.J0 i) O0) G3 cB0:=(R6.XZ U5).XZ Vw.2;refine FW0 ES Vw.1 yY hx Yd λ s5 NN g5 k5=>?_;have tb5:zM G3 s5.B3 r:=by
  obtain⟨c',d',rC,Tb,hv,h1⟩:=tb4;obtain⟨hr,_,cx',cr,dr,Yk⟩:=xi;exact⟨c',d',rC,Tb,k5 _ _ (λ q=>yY.Nc.1 ⟨r,hr,by rw[Yk];simp,q⟩) hv,h1⟩
 refine C60 g5 xi tb5 λ s6 D60=>?_;refine iY D60.1 xi C9 hf (λ s7 E60 tb7=>hR _ _ ?_) O bG;refine Xv es (λ _ _ h=>h) ⟨G3,r,?_,Uw E60.1,xi,tb7,hQ⟩;have nm:∀{G1 G2:Gh}{s1 s2:D1},A3 B N2 G1 s1 G2 s2->A3 B (D5 N0 L) G1 s1 G2 s2:=λ st=>Qn λ _ q=>Q6;exact((((Zd.U2 (nm U5)).U2 (nm Vw.2)).U2 NN).U2 (nm D60.2)).U2 (nm E60.2)
end
section
open PyProof.Rows
variable{B:Bs}{A:Around}{G G':Gh}{s s':Shared}{F:Addr->Prop}{FZ:Nat->Bool}
variable{g:Nat->Option PV}{cl:Nat->Nat}{n:Nat}{ih:C5}{T:Tab}{cenv:Env}{L:Kinds}{env:PV}{k:Nat}
theorem HO0(BF:S7 B g)(XB:ZE B T)(es:wG A N0 L)(gd:J1 B A G s){i:C0}(hi:i<J3){cx:I1}{c d:C0}(iB:P3 i=.K8 cx c d){t:C1}{a:C0}(ha:ZH g L t=E0 a)(hoa:Y9 T a=I0)(hoc:Y9 T c=I0){D2:T3}{R:BM->D1->Prop}
  (h:R (.ok (if JE (a=c)then .cB else .W4)) s):JC R2 (lR (E0 (.J0 (Y2 i)))) (.NA0 (.J0 (Y2 i)) [.xD (E0 t) H0 [] D2] N0) R s:=by
 symm;obtain⟨tn,tp,O,h1,h2,h3⟩:=v50 ha;obtain⟨k,O,Z6,E8,_⟩:=UU c hoc;obtain⟨k',O,hne',IO0,_⟩:=UU a hoa;obtain⟨vs,he,_⟩:=mT gd hi iB;ext;refine codeAny_handlers_test (B60 BF Fh (Tw gd) h1 h2 h3 ?_);obtain⟨hp,gg,dd,tk,os⟩:=s;exact UN0 (E8 _ IC) (IO0 _ IC) hne' he h
theorem Ww(BF:S7 B g)(XB:ZE B T)(es:wG A N0 L)(gd:J1 B A G s){i:C0}(hi:i<J3){cx:I1}{c d:C0}(iB:P3 i=.K8 cx c d){t:C1}{a:C0}(ha:ZH g L t=E0 a){nm:Q1 u0}{P4:P0 P5}{D2:T3}{r:P0 xD}{ok:C0->I1}{m:M Fl}{P:Fl->K1->Prop}{Q:C0->K1->Prop}
  (M0:(F1 (y5 77 (Mb (P3 i))) (λ d=>pA 77 (ok d) (bif Y1 a d then m else VU T i O0 (cH g L r))) R1).P1 P Q)(PC:ok c=I0->Y9 T a=I0/\Y9 T c=I0){K:OJ->D1->Prop}{E:K0->D1->Prop}
  (F6:ok c=I0->(m R1).P1 P Q->JC R2 (lR (E0 (.J0 (Y2 i)))) (.NA0 (.J0 (Y2 i)) [.xD H0 nm P4 D2] N0) (λ r s9=>match r with
     |.ok f=>(match nm with
      |H0=>K f s9
      |E0 n=>V0 R2 A (do rW N0 n .H0;xS0 N0 n D2) (λ _ MD=>K f MD) E s9)
     |.LD x=>ww R2 A N0 E x s9) s)
  (no:(VU T i O0 (cH g L r) R1).P1 P Q->V0 R2 A (OA0 (.J0 (Y2 i)) N0 r) K E s):V0 R2 A (OA0 (.J0 (Y2 i)) N0 (.xD (E0 t) nm P4 D2::r)) K E s:=by
 have hcls:Mb (P3 i)=E0 c:=by rw[iB];rfl
 symm;rw[hcls]at M0;obtain⟨c1,rg,M0⟩:=u9 (j6 M0);obtain O:=I3 rg;obtain⟨hk,M0⟩:=ZX M0;obtain⟨k1,k2⟩:=PC hk;ext;refine wpAny_handleBy_cons (HO0 BF XB es gd hi iB ha k1 k2 ?_) (by intro q;contradiction);cases hb:Y1 a c with
 |I0=>
  rw[hb]at M0;rw[y3 (RW (M6 hb))];exact F6 hk M0
 |R0=>
  rw[hb]at M0;rw[w3 λ q=>tA hb (wa q)];exact no M0
theorem JO0(BF:S7 B g){XB:ZE B T}(XI:AK BF cl XB)(es:wG A N0 L)(CZ:fR+20<=cZ)(gd:J1 B A G s)(er:V5 B N0 D0 O0 G W0){i:C0}(hi:i<J3){cx:I1}{c d:C0}(iB:P3 i=.K8 cx c d)(tb:zM G W0 i){P:Fl->K1->Prop}{Q:C0->K1->Prop}:
  ∀{hs:P0 xD},(VU T i O0 (cH g L hs) R1).P1 P Q->V0 R2 A (OA0 (.J0 (Y2 i)) N0 hs) (Po B (YE B N0) (D5 N0 L) A G s P) (Px B (D5 N0 L) A G s Q) s:=by
 have nm:∀{G1 G2:Gh}{s1 s2:D1},A3 B N2 G1 s1 G2 s2->A3 B (D5 N0 L) G1 s1 G2 s2:=λ st=>Qn λ _ q=>Q6;have gm:J1 B (lR (E0 (.J0 (Y2 i)))) G s:=Tw gd;intro hs;induction hs with
 |B0=>exact λ M0=>wpAny_handleBy_nil (C60 gd ⟨hi,O,_,_,_,iB⟩ tb λ s' nC=>⟨G,i,nm nC.2,nC.1,⟨hi,O,_,_,_,iB⟩,M0⟩)
 |A0 h r ih=>
  intro M0;have sh:=mC0 (g:=g) (L:=L) (h:=h) (r:=r);generalize cH g L (h::r)=q at sh M0;cases sh using CH.n8 with
  |M2=>exact C4
  |U1 t c' j cp rp hp a v ha hc=>
   refine Ww BF XB es gd hi iB ha (ok:=λ d=>Y9 T a&&Y9 T d) (m:=W1 (.U1 v O0)) M0 (λ h=>by rwa [N5]at h) (λ _ M0=>?_) ih;refine qS0 (gQ gm ⟨hi,O,_,_,_,iB⟩ λ s1 wO=>?_);refine AB (Hb (V3 (Tx (F:=N2) wO.1 hc (λ a σ=>a=v/\σ=R1) (λ _ _=>J6) ⟨O,O⟩) ?_ λ _ _ Z2=>by obtain⟨_,_,_,_,_,h⟩:=Z2;exact u4));intro w s2 Z2;obtain⟨G2,a2,I2,g2,oX,e1,e2⟩:=Z2;subst e1;exact⟨G2,.U1 a2 O0,(nm wO.2).U2 (nm I2),Uw g2,oX,by rw[e2];exact M0⟩
  |U20 t el lp rp hp a ha hf=>
   refine Ww BF XB es gd hi iB ha (ok:=λ d=>Y9 T a&&Y9 T d) (m:=A20 (R8 (dO g L) el) O0) M0 (λ h=>by rwa [N5]at h) (λ _ M0=>?_) ih;obtain⟨vs,hvs,M0⟩:=u9 (j6 M0);have M0:P (.U1 (.J0 J3) O0) (qL (.M1 vs)):=M0;refine qS0 (gQ gm ⟨hi,O,_,_,_,iB⟩ λ s1 wO=>?_);have D9:=HI wO.2;refine AB (Hb (m90 (V3 (aN0 BF Fh wO.1 D9 hvs (λ a σ=>a=vs/\σ=R1) (λ _ _=>J6) ⟨O,O⟩) (λ ws s2 ⟨G2,a2,I2,g2,r2,e1,e2⟩=>⟨by rw[r2.2];exact gu hf,?_⟩) λ _ _ Z2=>by obtain⟨_,_,_,_,_,h⟩:=Z2;exact u4)));subst e1;obtain⟨g3,U5,r3⟩:=g2.dR (tk:=s2.B4) (k:=0) r2.1;exact⟨G2.SB (.M1 a2) s2.Ch,.U1 (.J0 Xo) O0,((nm wO.2).U2 (nm I2)).U2 (nm U5),Uw g3,r3,by
    show P (.U1 (.J0 Xo) O0) (G2.si (.M1 a2));rw[e2];exact M0⟩
  |Ub t x d' xp ap y yp cp j np rp hp a dd ha hd h4 h5 h6 h7 h8=>
   obtain⟨dn,dp,O,h1,h2,h3⟩:=v50 hd;refine Ww BF XB es gd hi iB ha (ok:=λ e=>Y9 T a&&Y9 T e&&Y9 T dd) (m:=pA 76 (y10 (P3 i)) (Uq i dd (vc "message") (vc y) O0)) M0 (λ h=>by rw[N5,N5]at h;exact h.1) (λ PC M0=>?_) ih;rw[N5,N5]at PC;obtain⟨hpl,M0⟩:=ZX M0;have hcx:cx=R0:=by rw[iB]at hpl;cases cx using o7<;>first|rfl|contradiction
   subst hcx;exact GO0 BF XI es gd er CZ hi iB PC.1.2 h1 h2 h3 PC.2 h4 h6 h5 h7 h8 M0 λ e s' h=>h
end
section
open PyProof.Rows
variable{B:Bs}{A:Around}{G G':Gh}{s s':Shared}{F:Addr->Prop}{FZ:Nat->Bool}
variable{g:Nat->Option PV}{cl:Nat->Nat}{n:Nat}{ih:C5}{T:Tab}{cenv:Env}{L:Kinds}{env:PV}{k:Nat}
theorem KO0(g:J1 B A G s){i:C0}{e:K0}(x:vG G i e){fo:Q1 H1}{Q:T7->D1->Prop}{E}(h:∀s',xM B A G s s'->HS VH W0 U6->Q () s'){A':C6}:V0 R2 A' (Re e fo) Q E s:=by
 obtain⟨cx,c,d,vs,hx,O,hi,he,ht⟩:=Nu g x;rcases Ou ht with h1|⟨T,oT,ts,h1,hT,hc,hd,h3,bT⟩
 ·refine S0 (N7 he O h1 ?_);exact E2 (h s ⟨g,.M5 ..⟩ (.M5 _ _))
 ·refine S0 (N7 he O h1 ?_);exact LR hT hd h3 (h _ (g.hs (tk:=X4) (Cn bT hT hc hd 3 _)) (Cn bT hT hc hd 3 _))
theorem zM.hs{i:C0}{h':O1}(tb:zM G W0 i)(gd:J1 B A G s){e:K0}(xi:vG G i e)(hs:HS VH W0 h'):zM G h' i:=by
 obtain⟨c,d,vs,Tb,hv,h1⟩:=tb;obtain⟨hi,_,cx,c',d',iB⟩:=xi;obtain⟨rC,he,_⟩:=mT gd hi iB;rw[hv]at he;cases he;exact⟨_,_,vs,Tb,hs.eq hv (by simp) (by simp),h1⟩
theorem LO0{α:Type}{h:C0->K1->H7 α}{P:α->K1->Prop}{X:C0->K1->Prop}{o:H7 α}:(sx h o).P1 P X->aH P (λ i σ=>(h i σ).P1 P X):=by
 induction o with
 |B9 a s=>exact λ x=>x
 |K8 i s=>exact λ x=>x
 |YG n k ih=>exact λ x d hd=>ih d (x d hd)
 |eJ w=>exact λ x=>x
theorem O8.dp{n:C0}(x:O8 n A):fR+20<=cZ:=by have:=To;exact ω45 ‹_›
theorem MO0(BF:S7 B g){XB:ZE B T}(XI:AK BF cl XB)(HR:Aw B g cl n ih)(HS:xJ B g cl n ih)(X:G5 B n A N0 L O0 G s){b J4:P0 P5}{h:xD}{hs:P0 xD}{D2:T3}{k1 k2:C0}(hb:KV b=I0):
  uO B A N0 L (D20 T ih (cS g cl k1 L b) (cH g L (h::hs)) (cS g cl k2 L J4) O0) (.ao b (h::hs) [] [] D2::J4) G s:=by
 intro P Q M0;have h0:=j6 M0;have h1:(sx (λ i=>VU T i O0 (cH g L (h::hs))) (cC (cS g cl k1 L b) O0 R1)).P1 (λ f σ=>(tK ih (cS g cl k2 L J4) f σ).P1 P Q) Q:=h0;have h2:=LO0 h1;refine AB (wpAny_Try_except ?_);refine V3 (HR X hb h2) (λ f s1 ⟨G1,fl,C2,g1,rf,hp⟩=>?_) λ e s1 ⟨G1,i,C2,g1,xi,hx⟩=>?_
 ·have O6:=Sd (k:=k2) HS iD WB C2 g1 rf hp;cases f using JH with
  |W4=>exact KP O6
  |_=>exact O6
 ·obtain⟨L0,e0,cK,C9,hf,bG⟩:=WB.HD;refine iY g1 xi C9 hf (λ s2 Xw tb2=>?_) O bG;refine KO0 Xw.1 xi λ s3 F60 wQ=>?_;have tb3:=tb2.hs Xw.1 xi wQ;have U5:A3 B N2 G s G1 s3:=(FC Xw.2).U2 F60.2;have DZ:=i00 (F':=D5 N0 L) λ _ q=>Q6;obtain⟨hi,O,cx,c,d,iB⟩:=xi;refine V3 (JO0 BF XI WB iD.dp F60.1 (iL U5) hi iB tb3 hx) ?_ λ e s4 px=>Z00 DZ;intro f s4 Z2;obtain⟨G4,fl,wA,g4,rf,hp⟩:=Z2;have O6:=Sd (k:=k2) HS iD WB (DZ.U2 wA) g4 rf hp;cases f<;>exact O6
end
section
open PyProof.Rows
variable{B:Bs}{A:Around}{G G':Gh}{s s':Shared}{F:Addr->Prop}{FZ:Nat->Bool}
variable{g:Nat->Option PV}{cl:Nat->Nat}{n:Nat}{ih:C5}{T:Tab}{cenv:Env}{L:Kinds}{env:PV}{k:Nat}
theorem J1.zg{P:H1}{h':O1}{tk:P6}{ob:D4}(g:J1 B A G s)(hP:P∈GG)(ho:F3 P=E0 ob)(hc:yA0=.H0)(k:∀b o,b≠P->F3 b=E0 o->D3 b=E0 o)(hl:∃o,D3 P=E0 o)(hz:B.NG h'):
  J1 B A G {s with B3:=h',B4:=tk}/\A3 B N2 G s G {s with B3:=h',B4:=tk}:=by
 have ne:∀{b o},F3 b=E0 o->H4≠.H0->b≠P:=λ e f q=>by rw[q,ho]at e;obtain O:=I3 e;exact f hc
 have k3:XE W0 h':=⟨λ b o ts e c d=>⟨o,ts,k b o (ne e (by rw[c];simp -w4)) e,c,d,O⟩,λ b o e c d=>⟨o,k b o (ne e (by rw[c];simp -w4)) e,c,d⟩,λ b o e c=>k b o (ne e (by rw[c.1];simp -w4)) e⟩;have Q0:CC F5 W0 h':=λ b vs n _ e=>k _ _ (ne e (by simp -w4)) e;have NO0:∀i,i<J3->P3 i≠.K4->Y2 i≠P:=λ i hi hn q=>by
  obtain⟨o,e⟩:=jn P hP;have:=yC i hi hn;rw[q,e]at J2;contradiction
 obtain⟨l,hlf,hf⟩:=WJ;have GE:∀b o,F3 b=E0 o->∃o',D3 b=E0 o':=λ b o e=>by
  by_cases q:b=P
  ·rw[q];exact hl
  ·exact⟨o,k _ _ q e⟩
 refine⟨⟨LE,⟨UG,λ j hj=>?_,kL,yC,λ a ha=>⟨(DE a ha).1,by obtain⟨o,e⟩:=(DE a ha).2;exact GE a o e⟩⟩,λ b o e h1 h2 h3=>k _ _ (λ q=>h1 (q▸hP)) (VB b o e h1 h2 h3),
  hz,l,hlf,Zf k3⟩,⟨h',tk,O⟩,.M5 G,λ b x=> .S2 x,GE,λ b o e _ _ h3=>⟨o,k _ _ (λ q=>h3 (q▸hP)) e,.M5 o⟩,Q0,k3⟩
 by_cases ha:P3 j=.K4
 ·rw[ha];trivial
 ·exact(HA j hj).E5 (.M5 G) Q0 k3 (λ ob e=>k _ _ (NO0 j hj ha) e) λ d l _ e=>⟨l,e⟩
structure zV(BF:S7 B g)where
 bm:H1
 o:D4
 q8:VF "__builtins__"=E0 (.J0 bm)
 n1:bm≠kW
 n2:bm≠OP
 o9:TG bm=E0 o
 O2:H4=.U0 "module"
 H2:uU=E0 kW
 M3:I9=.xF
 z1:bm∉GG
 z2:OP∉GG
noncomputable abbrev Yw(W2 uB:u0)(wC:MK)(P4:eW0)(sc:cA)(JO:P0 (u0×H1))(pm QD ct:K0):PH:=
 {W2,OK:=uB,wC,P4,w8:=sc,dE:=OP,jN:=JO,PK:=.H0,iW:=.H0,AQ:=.H0,Ue:=pm,ul:=H0,bA:=QD,bc:=ct,pF:=kW}
theorem G60(BF:S7 B g)(MB:zV BF)(ES:n9 N0 L)(gd:J1 B A G s)(rR:B.Ti N0.bA){W2 uB:u0}{wC:MK}{P4:eW0}{sc:cA}{JO:P0 (u0×H1)}{D2:T3}{fl:C0}
  (dG:Bm sc N0=L4 JO)(hdoc:∀b,P4=.AE b->P_ b=H0){Q:K0->D1->Prop}{E:K0->D1->Prop}
  (h:∀a s' pm QD PE q,A3 B N2 G s G s'->J1 B A G s'->P2<=a->VL a=E0 {O2:=.U0 "function",M3:=.XG (Yw W2 uB wC P4 sc JO pm QD PE)}->sJ U6 QD q->Q (.J0 a) s'):
  V0 R2 A (makeFunction W2 uB wC P4 sc N0 [] [] [] D2 fl) Q E s:=by
 obtain⟨c,P,ps,hc,hcc,htab,Zw,Mg⟩:=B.zfn rR gd.NG;have hg:=am _ IC;have hbo:=IC _ _ MB.o9 MB.z1 (by rw[Ln];decide) (by rw[Ln];decide);have Z6:MB.bm≠P:=λ q=>MB.z1 (q▸Zw);have hgP:OP≠P:=λ q=>MB.z2 (q▸Zw);have hPo:=htab.2;rw[makeFunction_eq];simp -w4 only[IU0,P0.filterMap_nil,P0.xv,sW,CA0];unfold makeTail;rw[dG];refine S0 (E2 ?_);have AQ:∀{s:D1}{N:K0->Y7 K0},V0 R2 A (N .H0) Q E s->V0 R2 A (match P4 with|.AE b=>(match P_ b with|E0 s=>ly s|H0=>L4 .H0)>>=N|.B6 _=>L4 .H0>>=N) Q E s:=λ{s N} hk=>by
  cases P4 with
  |AE b=>
   show V0 R2 A ((match P_ b with|E0 s=>ly s|H0=>L4 .H0)>>=N) Q E s;rw[hdoc b O];exact S0 (E2 hk)
  |B6 e=>exact S0 (E2 hk)
 have x7:∀{PE QD:K0}{q:u0}{s2:D1},A3 B N2 G s G s2->J1 B A G s2->P2<=s2.Ch->sJ TN QD q->
   V0 R2 A (RV0 WL N0.pF) (λ bs s3=>V0 R2 A (nsGet WL "__name__") (λ pm s4=>V0 R2 A (match P4 with|.AE b=>(match P_ b with|E0 s=>ly s|H0=>L4 .H0)>>=(λ dc=>my (.U0 "function") (.XG {W2,OK:=uB,wC,P4,w8:=sc,dE:=WL,jN:=JO,bc:=PE,bA:=QD,pF:=bs,PK:=.H0,iW:=.H0,ul:=H0,Ue:=c00 .H0,AQ:=dc}))|.B6 _=>L4 .H0>>=(λ dc=>my (.U0 "function") (.XG {W2,OK:=uB,wC,P4,w8:=sc,dE:=WL,jN:=JO,bc:=PE,bA:=QD,pF:=bs,PK:=.H0,iW:=.H0,ul:=H0,Ue:=c00 .H0,AQ:=dc}))) Q E s4) E s3) E s2:=λ{PE QD q s2} I2 g2 hz2 OO0=>by
  have Zk:=am _ kU;have PO0:=kU _ _ MB.o9 MB.z1 (by rw[Ln];decide) (by rw[Ln];decide);rw[Go];refine wpAny_builtinsFor Zk MB.q8 MB.n1 PO0 Ln MB.H2 MB.M3 ?_;refine QV0 Zk ?_;refine AQ ?_;obtain⟨g3,U5⟩:=IB0 (h':=s2.Wp {O2:=.U0 "function",M3:=.XG (Yw W2 uB wC P4 sc JO ((VF "__name__").jI .H0) QD PE)}) (tk:=s2.B4) (λ b o e=>vA _ _ _ _ e);exact HH (h _ _ _ _ _ q (UP U5) g3 hz2 (DA _ O) (OO0.at λ b o e _=>vA _ _ _ _ e)) (by size_fits)
 have bA:∀{PE:K0}{s1:D1},A3 B N2 G s G s1->J1 B A G s1->P2<=E9->(∀b o,F3 b=E0 o->IJ b=E0 o)->V0 R2 A (functionCode N0 D2 fl W2 uB wC sc P4) (λ QD s2=>
   V0 R2 A (RV0 WL N0.pF) (λ bs s3=>V0 R2 A (nsGet WL "__name__") (λ pm s4=>V0 R2 A (match P4 with|.AE b=>(match P_ b with|E0 s=>ly s|H0=>L4 .H0)>>=(λ dc=>my (.U0 "function") (.XG {W2,OK:=uB,wC,P4,w8:=sc,dE:=WL,jN:=JO,bc:=PE,bA:=QD,pF:=bs,PK:=.H0,iW:=.H0,ul:=H0,Ue:=c00 .H0,AQ:=dc}))|.B6 _=>L4 .H0>>=(λ dc=>my (.U0 "function") (.XG {W2,OK:=uB,wC,P4,w8:=sc,dE:=WL,jN:=JO,bc:=PE,bA:=QD,pF:=bs,PK:=.H0,iW:=.H0,ul:=H0,Ue:=c00 .H0,AQ:=dc}))) Q E s4) E s3) E s2) E s1:=λ{PE s1} C2 g1 hz1 k1=>by
  have bw:=hcc.zW k1;have H60:=htab.zW k1;cases hf:zZ D2 k00 with
  |E0 c'=>
   obtain⟨q,hq⟩:=Mg D2 c' hf;exact wpAny_functionCode_hit hc bw hf (x7 C2 g1 hz1 (hq.at λ b o e _=>k1 b o e))
  |H0=>
   refine wpAny_functionCodeX hc bw H60 hf λ c' h2 tk hx hge ZF hc2 Ap ht2 zz=>nU zz λ P' _ _ htc=>?_;have Ap:sJ h2 (.J0 c') uB:=by
    obtain⟨c1,o1,vs1,t1,e1,g1',d1,r1⟩:=Ap;cases e1;symm;obtain⟨⟨o2,vs2,Uk,cc,_⟩,_⟩:=htc;rw[g1']at Uk;obtain O:=I3 Uk;ext;exact⟨_,_,_,_,O,g1',cc,d1,r1⟩
   have hz2:B.NG h2:=B.a30 rR hc g1.NG bw hx hge hc2 ht2 Ap;obtain⟨g2,I2⟩:=g1.zg (tk:=tk) Zw H60.2 O hx ⟨_,ht2.2⟩ hz2;exact x7 (FC I2) g2 (X6 hz1 (X6 hge (NP ZF))) Ap
 cases YF:JO.jL with
 |I0=>
  refine S0 (E2 ?_);exact S0 (V3 (bA (PE:=.H0) (.M5 ..) gd (B8 _) λ _ _ e=>e) (λ _ _ h=>S0 (V3 h (λ _ _ h=>S0 (V3 h (λ _ _ h=>h) λ _ _ x=>x)) λ _ _ x=>x)) λ _ _ x=>x)
 |R0=>
  refine SI PG ?_;refine S0 (wpAny_newTextTuple ?_);obtain⟨g1,C2⟩:=rn (h':=G8 {O2:=.U0 "tuple",H2:=H0,M3:=.W5 ((JO.mergeSort λ a b=>JE (a.1.mK.bE<=b.1.mK.bE)).Y4 (λ x=>x6 x.2)).P8}) (tk:=X4) (λ b o e=>vA _ _ _ _ e);exact S0 (V3 (bA (PE:=.J0 P2) C2 g1 (by rw[bD];exact QG _ _) λ b o e=>vA _ _ _ _ e) (λ _ _ h=>S0 (V3 h (λ _ _ h=>S0 (V3 h (λ _ _ h=>h) λ _ _ x=>x)) λ _ _ x=>x)) λ _ _ x=>x)
end
section
open PyProof.Rows
variable{B:Bs}{A:Around}{G G':Gh}{s s':Shared}{F:Addr->Prop}{FZ:Nat->Bool}
variable{g:Nat->Option PV}{cl:Nat->Nat}{n:Nat}{ih:C5}{T:Tab}{cenv:Env}{L:Kinds}{env:PV}{k:Nat}
theorem QO0{a:MK}{b:P0 P5}{sc:cA}(h:MY L a b sc=I0):∃as,a=⟨[],as,H0,[],[],H0,[]⟩/\(∀x∈as,M90=H0)/\P_ b=H0/\∀k∈w5,k.2=.j7->G9 k.1=E0 .l6:=by
 unfold MY at h;simp only[N5,WS0,Option.isNone_iff_eq_none,OV0,FP,i80,az,MU]at h;exact⟨w00,H20 h.1,h.2.1.1,h.2.1.2,λ k hk q=>(h.2.2 k hk).KB (λ z=>U3 q z) id⟩
theorem RO0:∀{as:P0 GS},(∀x∈as,M90=H0)->eU0 as N0=[]:=by
 intro zq;induction zq with
 |B0=>
  intro _;exact O
 |A0 pq r ih=>
  intro h;obtain⟨x,an,p⟩:=pq;have h1:an=H0:=h ⟨x,an,p⟩ (aE ..);subst h1;exact ih λ y hy=>h y (AC _ hy)
theorem J1.iw{a:H1}(gd:J1 B A G s)(st:A3 B F G s G s')(g':J1 B A G s')(ha:P2<=a)(he:∃o,VL a=E0 o):J1 B A (r7 .K4 a) s'/\A3 B F G s (r7 .K4 a) s'/\H3 (r7 .K4 a) U6 (.J0 J3) (.J0 a):=by
 have na:=aN gd ha;obtain⟨g2,I2⟩:=Qm (o:=.K4) st g' (TE ha) ⟨na.1,na.2.1,na.2.2,he⟩ FE;exact⟨g2,I2,TD _,H6 x6 (y3 O).Z3⟩
theorem SO0{BF:S7 B g}(MB:zV BF)(HS:xJ B g cl n ih)(X:G5 B n A N0 L O0 G s){x:u0}{a:MK}{b J4:P0 P5}{sc:cA}{D2:T3}{k2:C0}(hx:A5 x=I0)(hl:z6 L x=I0)(hd:MY L a b sc=I0):
  uO B A N0 L (F1 (V9 .K4) λ f=>cC (cS g cl k2 L J4) (A6 (vc x) f O0)) (.JU x a b [] H0 [] sc H0 x D2::J4) G s:=by
 intro P Q M0;have M0:(cC (cS g cl k2 L J4) (A6 (vc x) (.J0 J3) O0) (qL .K4)).P1 P Q:=M0;obtain⟨as,O,h1,h2,h3⟩:=QO0 hd;obtain⟨cs,dG,_⟩:=Y50 (W9:=N0) (sc:=sc) λ y hy q=>X.Vo _ (WB.l6 _ (h3 y hy q));refine AB ?_;have ha:annTrees ⟨[],as,H0,[],[],H0,[]⟩ H0 N0=[]:=by
  show eU0 (as++[]++[]++[]++[]) N0++[]=[];simp only[sv];exact RO0 h1
 rw[exec_def,ha];refine S0 (BB (S0 (A8 ?_)));refine S0 (E2 (S0 (A8 (E2 (A8 (S0 (E2 ?_)))))));refine G60 BF MB MI ZB X.Tg dG (λ b' q=>by cases q;exact h2) λ f s1 pm QD PE q C2 g1 hf BG _=>?_;obtain⟨g2,I2,r2⟩:=ZB.iw C2 g1 hf ⟨_,BG⟩;have R6:=iL I2;refine S0 (BB (S0 (F90 (lV MI g2 R6 hx hl r2 (λ b q=>q) λ s3 U5 g3 sD=>E2 ?_))));exact(HS (k:=k2) (st:=J4) iD WB g3 (sD.Lu λ y hy=>hy.1)).I8 ((sL λ _ q=>Q6).U2 U5) M0
def xQ(h:O1)(a:H1):Prop:=∃(W2 uB:u0) (wC:MK) (P4:C1) (sc:cA) (pm QD PE:K0) (q:u0),XS wC P4 sc=I0/\C3 a=E0 {O2:=.U0 "function",M3:=.XG (Yw W2 uB wC (.B6 P4) sc [] pm QD PE)}/\sJ h QD q
theorem I60{a:MK}{b:C1}{sc:cA}(h:XS a b sc=I0):∃x y z p1 j p2 p3,a=⟨[],[x,y,z],H0,[],[],H0,[]⟩/\b=.BD (.u3 iK p1) (.H8 (.j0 2) j p2) p3/\A5 iK=I0/\Ba≠iK/\iK≠bX/\Ba≠bX/\
  Xf=.sF/\sc.Id=R0/\sc.Md=R0/\(∀k∈w5,k.2=.G7)/\XC Ba=E0 .G7/\XC iK=E0 .G7/\XC bX=E0 .G7:=by
 symm;unfold XS at h;rw[N5]at h;obtain⟨h0,h⟩:=h;have e1:=H20 h0;cases ha:jq w00 with
 |H0=>
  ext;rw[ha]at h;contradiction
 |E0 q=>
  obtain⟨x,y,z⟩:=q;rw[ha]at h;rw[MC0 ha]at e1;cases hb:Vh b with
  |H0=>
   ext;rw[hb]at h;contradiction
  |E0 n=>
   rw[hb]at h;obtain⟨p1,j,p2,p3,O⟩:=OC0 hb;have h:sq x y z n sc=I0:=h;unfold sq at h;simp only[N5,MU,FP,i80,az,WS0]at h;obtain⟨O,h3,h4,h5,h6,h7,h8,h9,AW,qX,OS,jd⟩:=h;ext;exact⟨x,y,z,p1,j,p2,p3,e1,O,h3,h4,h5,h6,PC0 h7,h8,h9,AW,qX,OS,jd⟩
theorem TO0{BF:S7 B g}(MB:zV BF)(LB:cU=λ _=>xQ)(X:G5 B n A N0 L O0 G s){a:MK}{b:C1}{sc:cA}{D2:T3}{j:C0}(PC:XS a b sc=I0):
  V4 B RV N2 A (V9 (.qA j)) (Q5 (.fy a b sc D2) N0) G s:=by
 intro P Q M0;symm;have M0:P (.J0 J3) (qL (.qA j)):=M0;obtain⟨x,y,z,p1,i,p2,p3,O,O,_,_,_,_,_,_,_,lQ,_⟩:=I60 PC;ext;have dG:Bm sc N0=L4 []:=closureFor_none λ k hk q=>by rw[lQ k hk]at q;contradiction
 refine S0 (E2 (S0 (A8 (E2 ?_))));refine G60 BF MB MI ZB X.Tg dG (λ b' q=>by contradiction) λ f s1 pm QD PE q C2 g1 hf BG Mg=>?_;symm;have na:=aN ZB hf;obtain⟨g2,I2⟩:=Qm (o:=.qA j) C2 g1 (TE hf) ⟨na.1,na.2.1,na.2.2,_,BG⟩ (by
  show cU j pE f;rw[LB];exact⟨_,_,_,_,_,pm,QD,PE,q,PC,BG,Mg⟩)
 ext;exact .at (R:=RV) (a:=.J0 J3) I2 g2 ⟨TD _,H6 x6 (y3 O).Z3⟩ M0
end
section
theorem jw{y7:P0 u0}(nd:y7.JD):∀{L5:P0 K0}{x:u0},((PU L5).e9 x).fE=I0↔x∉F10 JK:=by
 induction y7 with
 |B0=>intro L5 x;simp
 |A0 y r ih=>
  rw[JP]at nd;intro L5 x;cases L5 using i5 with
  |B0=>simp
  |A0 v vs=>
   rw[LW,JR,GJ,oT0];cases h:x==y with
   |I0=>simp[dD h]
   |R0=>
    have Z6:x≠y:=by simpa using h
    dsimp only;rw[ih nd.2];simp[Z6]
theorem UO0{y7:P0 u0}(nd:y7.JD):∀{L5:P0 K0},JK=y7.M7->∀(QO:P0 (u0×K0)),(∀x∈y7,QO.e9 x=H0)->y7.UV (λ n=>((QO++PU L5).e9 n).Y4 (n,·))=PU L5:=by
 induction y7 with
 |B0=>intro L5 h QO _;simp
 |A0 y r ih=>
  rw[JP]at nd;intro L5 h QO hp;cases L5 using i5 with
  |B0=>contradiction
  |A0 v vs=>
   rw[LW];have e1:(QO++(y,v)::Ko vs).e9 y=E0 v:=by
    rw[B90,hp y (aE ..)];simp
   rw[S80 (b:=(y,v)) (by rw[e1];rfl)];have e2:QO++(y,v)::Ko vs=(QO++[(y,v)])++Ko vs:=by simp
   rw[e2,ih nd.2 (by simpa using h) (QO++[(y,v)]) λ x hx=>by
    rw[B90,hp x (AC _ hx)];have:x≠y:=λ q=>nd.1 (q▸hx);simp[J2]]
theorem VO0{y7:P0 u0}(nd:y7.JD)(f:u0×K0->P0 (u0×K0)->Y7 (Dm (P0 (u0×K0))))(hf:∀n d u,f (n,d) u=if(u.e9 n).fE=I0 then L4 (.xW (u++[(n,d)]))else L4 (.xW u)):
  ∀(Co:P0 u0)(D:P0 K0)(q:C0)(V:P0 K0),y7.TF q=Co->D.M7=Co.M7->q<=aR->aR<=y7.M7->Mf (Co.v8 D) (PU V) f=L4 (PU (V++D.TF (aR-q))):=by
 intro zq;induction zq with
 |B0=>
  intro D q V h hD h1 h2;cases D using i5 with
  |B0=>simp
  |A0=>contradiction
 |A0 y r ih=>
  intro D q V h hD h1 h2;cases D using i5 with
  |B0=>contradiction
  |A0 d D'=>
   have xe:y7=F10 q++y::r:=by rw[<-h,NT0]
   have hr:y7.TF (q+1)=r:=by rw[<-eV0,h];rfl
   have hql:q<y7.M7:=by
    rw[xe,P0.J90,GJ,zU0];have:q<=y7.M7:=X6 h1 h2;exact ω52 ‹_›
   rw[LW,PW,hf];by_cases hq:q<aR
   ·have Oa:y∈F10 aR:=by
     have:y7[q]?=E0 y:=by
      have:=H6 (λ l=>l[0]?) h;simpa using J2
     rw[P0.mem_take_iff_getElem];obtain⟨ZF,e⟩:=cq J2;exact⟨q,by exact ω68 ‹_› ‹_›,e⟩
    rw[w3 (λ z=>(jw nd).mp z Oa),CA0];show Mf (Ko D') (PU V) f=_;rw[ih D' (q+1) V hr (by simpa using hD) hq h2];have e:aR-q=(aR-(q+1))+1:=by exact ω15 ‹_›
    rw[e,qT0]
   ·have e:aR=q:=by exact(C0.T90 ‹_› (C0.N80 ‹_›)).Z3
    have hout:y∉F10 aR:=by
     rw[e];intro z;have nd':=nd;rw[xe]at nd';have:=(P0.nodup_append.mp nd').2.2 y z y (aE ..);exact J2 O
    rw[y3 ((jw nd).C8 hout),CA0];have e2:PU V++[(y,d)]=PU (V++[d]):=by
     have e3:∀(l:P0 u0)(V:P0 K0)(m:P0 u0),KJ=aR->(l++y::m).v8 V++[(y,d)]=(l++y::m).v8 (V++[d]):=by
      intro l;induction l with
      |B0=>intro V m h;cases V using i5 with
       |B0=>cases m using i5<;>rfl
       |A0=>contradiction
      |A0 a l ih=>intro V m h;cases V using i5 with
       |B0=>contradiction
       |A0 v V=>simp only[Ev,LW];rw[ih V m (by simpa using h)]
     rw[xe];exact e3 _ V r (by rw[zU0,e];exact uj (NP ‹_›))
    show Mf (Ko D') (PU V++[(y,d)]) f=_;rw[e2,ih D' (q+1) (V++[d]) hr (by simpa using hD) (by simp;omega) (by simp;exact ω69 ‹_› ‹_› ‹_›)];simp[e]
theorem J60{s:D1}{fd:PH}{as:P0 GS}{kd:P0 (Q1 C1)}{ds:P0 C1}{L5:P0 K0}{H5:M4 K0}(hp:UR=⟨[],as,H0,[],kd,H0,ds⟩)(nd:(SJ (·.WG)).JD)
  (hd:∀(M:YB)(A:C6)(E:K0->D1->Prop)(Q:Q1 (M4 K0)->D1->Prop),(∀r,r.jI #[]=H5->Q r s)->V0 M A (Hm fd.PK) Q E s)
  (h1:JK<=l_)(h2:l_<=JK+SR)(h3:SR<=l_):
  BindsTo s fd ⟨L5,[]⟩ ((SJ (·.WG)).v8 (L5++ij (SR-(l_-JK)))):=by
 intro M A E Q hq;obtain⟨f1,f2,prm,f4,f5,f6,f7,ak,f9,f10,f11,f12,f13,f14⟩:=fd;have hp:prm=_:=hp;subst hp;have hl:hV=SR:=Os;have hn:(SJ (·.WG)).M7=l_:=Hk ..;have hz:ij (hV-(SJ (·.WG)).M7)=D80:=by rw[show hV-(SJ (·.WG)).M7=0 from hl▸hn▸ω27 h3,a90]
 have hmiss:(P0.Xm (λ n=>(((SJ (·.WG)).v8 L5).e9 n).fE) ((SJ (·.WG)).VJ ((SJ (·.WG)).M7-hV)))=[]:=by
  rw[P0.filter_eq_nil_iff];intro x hx z;refine(jw nd).mp z ?_;have:(SJ (·.WG)).M7-hV<=JK:=by rw[hl,hn];omega
  exact(P0.take_sublist_take_left J2).subset hx
 have e:JK-((SJ (·.WG)).M7-hV)=SR-(l_-JK):=by rw[hl,hn];exact ω8 ‹_› ‹_›
 have hfm:=UO0 nd (L5:=L5++P0.TF (SR-(l_-JK)) D80) (by simp;exact ω13 ‹_› ‹_›) [] (λ _ _=>O);have K60:=VO0 nd (λ x u=>if(u.e9 x.1).fE=I0 then L4 (.xW (u++[(x.1,x.2)]))else L4 (.xW u)) (λ n d u=>O) (P0.TF ((SJ (·.WG)).M7-hV) (SJ (·.WG))) D80 ((SJ (·.WG)).M7-hV) L5 O (by simp;exact ω32 ‹_›) (by rw[hl,hn];omega) (by rw[hn];exact h1);have c1:¬((JE (JK>(SJ (·.WG)).M7)&&(H0:Q1 GS).fE)=I0):=by rw[hn];simp;omega
 rw[e]at K60;rw[<-hfm]at hq;unfold fW0;dsimp only[gW0,R90,pk];refine S0 (E2 ?_);refine S0 (hd M A E _ λ r hr=>?_);clear hd h1 h2 h3 nd;rw[hr];dsimp only;rw[hz];refine SI c1 ?_;refine SI (by rw[hmiss];exact PG) ?_;refine S0 (WN K60 ?_);refine S0 (E2 ?_);refine SI PG ?_;refine E2 ?_;refine(?_:Q (P0.UV _ (SJ (·.WG)++[])) s);rw[sv];exact hq
end
section
variable{B:Bs}{A:Around}{G G':Gh}{s s':Shared}{F:Addr->Prop}{FZ:Nat->Bool}
variable{g:Nat->Option PV}{cl:Nat->Nat}{n:Nat}{ih:C5}{T:Tab}{cenv:Env}{L:Kinds}{env:PV}{k:Nat}
theorem WO0{M:YB}(hfn:IP=.sF)(f:u0×K0->Lf->Y7 (Dm Lf))(hf:∀n v u,f (n,v) u=(do Cm N0 n v;L4 (.xW ⟨⟩))):
  ∀{kD:P0 (u0×K0)}{m:u0->Q1 K0}{s:D1}{Q:Lf->D1->Prop}{E:K0->D1->Prop},s.nZ NA m->(∀b∈kD,CB b.1=E0 .G7)->
   (∀h' tk,xm NA (λ x=>(pi x).or (m x))->WA NA W0 h'->(∀o,F3 NA=E0 o->∃o',D3 NA=E0 o'/\YK=H4)->Q ⟨⟩ {s with B3:=h',B4:=tk})->
   V0 M A (Mf kD ⟨⟩ f) Q E s:=by
 intro zq;induction zq with
 |B0=>
  intro m s Q E hn hl h;exact E2 (h W0 X4 (by simpa using hn) (.M5 ..) λ o e=>⟨o,e,O⟩)
 |A0 pq r ih=>
  intro m s Q E hn hl h;obtain⟨x,v⟩:=pq;have hp:(IP==.class||(IP==.vW&&NA !=WL))=R0:=by rw[hfn];rfl
  rw[PW,hf];refine S0 (S0 ?_);rw[z80 (hl (x,v) (aE ..)) hp];refine Zs hn λ h1 hn1 mH rg=>E2 ?_;refine ih hn1 (λ b hb=>hl b (AC _ hb)) λ h2 tk iX kH hc2=>h h2 tk ?_ (mH.U2 kH) λ o e=>?_
  ·have e:(λ y=>(r.bS0 y).or (if y=x then E0 v else m y))=λ y=>(((x,v)::r).YL.e9 y).or (m y):=im λ y=>by
    rw[D90,B90];cases r.bS0 y using i9 with
    |E0 w=>rfl
    |H0=>
     by_cases q:y=x
     ·subst q;simp
     ·have q':(y==x)=R0:=by simpa using q
      simp[JR,q',q]
   rw[<-e];exact iX
  ·obtain⟨o1,e1,c1⟩:=rg o e;obtain⟨o2,e2,c2⟩:=hc2 o1 e1;exact⟨o2,e2,c2.U2 c1⟩
theorem XO0{L3:tL}{w:N4}{R:BM->D1->Prop}{a:H1}{L1:Args}{o:D4}{fd:PH}{P4:C1}{q:u0}(hroom:fR<cZ)(ho:F3 a=E0 o)
  (eA:I9=.XG fd)(hco:GT.Md=R0)(hgen:GT.Id=R0)(fz:RB0=.B6 P4)(hcd:W0.Ry NX q)
  (h:V0 (U4 L3 w) sB (fW0 fd L1) (λ kD N6=>
   V0 (U4 L3 w) sB (sb GT Ho fd.jN kD (q++".<locals>.") (E0 a) NX H0 No)
    (λ O0 s9=>s9.B3.NoLimit/\JC (U4 L3 w) A (.B6 P4 O0) R s9) (λ e s'=>R (.LD e) s') N6) (λ e s'=>R (.LD e) s') s):
  JC (U4 L3 w) A (.K2 (.J0 a) L1) R s:=by
 refine bZ ?_;show V0 _ sB (dA0 (.J0 a) L1) _ _ s;refine S0 (yl ho ?_);obtain⟨c,oc,vs,tq,hc,hoc,hdc,hq⟩:=hcd;dsimp only;rw[eA];dsimp only;unfold callFunction;rw[hco,hgen,fz,hc];dsimp only;rw[hc]at h;refine S0 (m:=NC (.J0 c) 1) (N7 hoc hdc hq (S0 (E2 ?_)));exact S0 (V3 h (λ kD N6 n5=>S0 (V3 n5 (λ O0 s9 u7=>S0 (wpAny_enterFrame u7.1 hroom
  (E2 (MM.intro O u7.2)))) λ _ _ h'=>h')) λ _ _ h'=>h')
theorem YO0{sc:cA}{dE bi:H1}{kD:P0 (u0×K0)}{uB:u0}{fn:Q1 H1}{bA:K0}{Q:o6->D1->Prop}{E:K0->D1->Prop}(hk:Xf=.sF)(hc:∀x∈w5,x.2≠.l6)(hl:∀b∈kD,XC b.1=E0 .G7)
  (h:∀N0 h' tk,cenv.scope=sc->NA=P2->lW=E0 P2->xm P2 (λ x=>pi x)->(∀b o,F3 b=E0 o->D3 b=E0 o)->
   (∃o,D3 P2=E0 o/\H4=.U0 "frame"/\∀vs,I9≠.T5 vs)->Q N0 {s with B3:=h',B4:=tk}):
  V0 (U4 gE oE) A (sb sc dE [] kD uB fn bA H0 bi) Q E s:=by
 simp only[sb,Q1.isSome_none,Ps,D_];refine S0 (GV0 ?_);refine S0 (zT0 _ (λ W2 nL CU=>by cases nL==MR<;>simp) _ _ _ _ ?_);have QT:=oU0 w5 (G8 {O2:=.U0 "frame",M3:=.H2 #[]}) (P2+1) [] ⟨λ _ _ hm=>(nomatch hm),HV0⟩ (by rw[bD];exact B8 _);rw[bD]at QT;rw[show({s with B3:=G8 {O2:=.U0 "frame",M3:=.H2 #[]}}:D1).B3.SC.L9=P2+1 from bD ..];generalize YF:fx (P2+1) w5 []=CU at QT ⊢;generalize nV:tV0 (G8 {O2:=.U0 "frame",M3:=.H2 #[]}) w5=hp at QT ⊢;have kp:∀b o,F3 b=E0 o->ff b=E0 o:=λ b o e=>nV▸bb _ _ _ _ (vA _ _ _ _ e);have Mu:ff P2=E0 {O2:=.U0 "frame",M3:=.H2 #[]}:=nV▸bb _ _ _ _ (DA _ O);have hNs:hp.Ns P2 (λ _=>H0):=nV▸(O1.Ns.SB W0 (.U0 "frame")).zW (bb _ _);refine S0 (WO0 (s:={s with B3:=hp}) (N0:={w8:=sc,jp:=P2,dE:=dE,CU:=CU,uB:=uB,XG:=fn,bA:=bA,HD:=E0 P2,pF:=bi}) hk _ (λ _ _ _=>O) hNs (λ b hb=>hl b hb) λ h' tk hn hs dG=>E2 ?_);obtain⟨o',e',c'⟩:=dG _ Mu;refine h _ h' tk O O O ?_ (λ b o e=>mW b o (ZC (r9 e)) (kp b o e)) ⟨o',e',c',λ vs q=>?_⟩
 ·have e:(λ x=>(pi x).or H0)=λ x=>pi x:=im λ x=>by simp
  have hn:xm P2 (λ x=>(pi x).or H0):=hn;rw[e]at hn;exact hn
 ·obtain⟨o2,es,ep,e2,d2,_⟩:=hn;rw[e']at e2;obtain O:=I3 e2;rw[d2]at q;contradiction
theorem ZO0(BF:S7 B g)(D6:O8 (n+1) A)(gd:J1 B A G s){a:H1}(aO0:xQ W0 a){L1:PV}{L5:P0 K0}(r:A4 G W0 L1 L5):V4 B RV F A (Mh L1) (X7 (.J0 a) L5) G s:=by
 intro P X M0;symm;obtain⟨W2,uB,wC,P4,sc,pm,QD,PE,q,PC,BG,Mg⟩:=aO0;obtain⟨x,y,z,p1,j,p2,p3,O,O,hy,h1,h2,h3,h4,h5,h6,h7,h8,h9,AW⟩:=I60 PC;cases L1 using Q3 with
 |A0 a1 r1=>
  cases r1 using Q3 with
  |A0 a2 r2=>
   cases r2 using Q3 with
   |A0 a3 r3=>
    cases r3 using Q3 with
    |B0=>
     obtain⟨v1,l1,O,ra1,rl1⟩:=r;obtain⟨v2,l2,O,mw,rl2⟩:=rl1;obtain⟨v3,l3,O,ra3,ow⟩:=rl2;have ow:l3=[]:=ow;subst ow;have M0:(EM a2 (.j0 (.O4 2)) R1).P1 P X:=M0;have mw:H3 G W0 a2 v2:=mw;have hro:=D6.DU;ext;refine xZ (XO0 (by exact ω25 ‹_›) BG O h6 h5 O Mg.NR ?_);refine J60 (as:=[x,y,z]) (L5:=[v1,v2,v3]) (H5:=#[]) O (by simp[h1,h2,h3]) (λ M A E Q hq=>?_) (by simp) (by simp) (by simp) _ _ _ _ ?_
     ·exact S0 (E2 (E2 (hq H0 O)))
     refine YO0 h4 (λ k hk e=>by rw[h7 k hk]at e;contradiction) (λ b hb=>?_) λ N0 h' tk hsc AS C9 cG kp JS=>?_
     ·symm;simp only[FU,gW0,LW,IU0,GJ,BU,P0.drop_nil,sv,uD,vD,eE]at hb;rcases hb with O|O|O
      ·ext;exact h8
      ·ext;exact h9
      ·ext;exact AW
     obtain⟨g1,C2⟩:=rn (h':=h') (tk:=tk) kp;refine⟨j90 _ b00,kla_codeExpr ?_⟩;have gc:J1 B (iN N0) G {s with B3:=h',B4:=tk}:=g1.XW (by rw[hsc,h4];decide) C9 JS (TE U_);have ky:CB iK=E0 .G7:=by unfold o6.wT;rw[hsc];exact h9
     obtain⟨l,hl,OO⟩:=gd.fr;have pO:IP=.sF:=by rw[hsc];exact h4
     symm;have sU:∀{G' O7},A3 B F G {s with B3:=h',B4:=tk} G' O7->J1 B (iN N0) G' O7->A3 B F G s G' O7/\J1 B A G' O7:=λ SA vJ=>by
      have U5:=(iC (F':=F) λ _ q=>Q6).U2 SA;exact⟨U5,vJ.Uy hl (Un U5.k3)⟩
     have ev:V0 R2 (iN N0) (Q5 (.BD (.u3 iK p1) (.H8 (.j0 2) j p2) p3) N0) (Po B RV F (iN N0) G {s with B3:=h',B4:=tk} P) (Px B F (iN N0) G {s with B3:=h',B4:=tk} X) {s with B3:=h',B4:=tk}:=by
      refine lY (XV0 (vS0 (v:=v2) pO ky (by rw[AS];exact cG) ?_ ?_) (DL hy).1)
      ·show P0.e9 iK [(bX,v3),(iK,v2),(Ba,v1)]=E0 v2;have e1:(iK==bX)=R0:=by simpa using h2
       rw[JR,e1,JR,MW]
      ·refine zi ?_;symm;have gt:=gc.B4 (tk+1);obtain⟨T',id,i1,i2,i3⟩:=Hu (F:=F) gt.1 (mw.E5 (.M5 G) λ b vs n _ e=>kp _ _ e) (i:=.j0 (.O4 2)) ⟨tk,O⟩ M0;ext;exact⟨T',id,i1,i2,V3 i3 (λ _ _ h=>RJ (gt.2.E5 λ _ q=>Q6)) λ _ _ h=>RJ (gt.2.E5 λ _ q=>Q6)⟩
     ext;refine V3 ev (λ v s2 ⟨G2,b,I2,g2,rv,hp⟩=>?_) λ e s2 ⟨G2,i,I2,g2,xi,hx⟩=>?_
     ·obtain⟨U5,g3⟩:=sU I2 g2;exact .at (R:=RV) U5 g3 rv hp
     ·refine Z40 (A:=iN N0) g2 xi (O0:=N0) (cK:=l) (by show dN.Y4 _=_;rw[hl];rfl) C9 λ MD pV=>?_;obtain⟨wA,g4⟩:=sU (UP (pV.2.E5 λ _ q=>Q6)) pV.1;exact⟨G2,i,wA,g4,xi,hx⟩
    |_=>exact C4
   |_=>exact C4
  |_=>exact C4
 |_=>exact C4
end
section
variable{B:Bs}{A:Around}{G G':Gh}{s s':Shared}{F:Addr->Prop}{FZ:Nat->Bool}
variable{g:Nat->Option PV}{cl:Nat->Nat}{n:Nat}{ih:C5}{T:Tab}{cenv:Env}{L:Kinds}{env:PV}{k:Nat}
def bk(B:Bs)(g:C0->Q1 PV)(cl:C0->C0)(T:mI):Prop:=∀a p b,(UF a=.fn p b\/∃k,UF a=.i7 k p b)->Ly (jQ B g cl a p b)
def qd(B:Bs)(T:mI)(n:C0):Prop:=∀{A:C6}{G:Gh}{s:D1}{a k:C0}{p:Pm}{b:S}{L1:PV}{L5:P0 K0}{o:H7 PV}{P:PV->K1->Prop}{X:C0->K1->Prop},
 UF a=.i7 k p b->O8 n A->J1 B A G s->A4 G W0 L1 L5->T.i7 k L1 R1=E0 o->aH P X->V0 R2 A (X7 (.J0 a) L5) (Po B RV N2 A G s P) (Px B N2 A G s X) s
theorem L60{a:C0}{k:Cl}(h:UF a=.O2 k)(hk:PI=I0):Y9 T a=I0:=by
 unfold Y9;rw[h];exact hk
theorem bO0(BF:S7 B g){XB:ZE B T}(XI:AK BF cl XB)(CT:aD B T)(FT:bk B g cl T)(LB:cU=λ _=>xQ)(HO:qd B T (n+1))(HS:xJ B g cl n ih)(HC:rO B n ih):rO B (n+1) (K6 FZ T ih):=by
 intro A G s f L1 fv L5 D6 gd rf r P X M0;cases f using Q3 with
 |Y0 a=>
  symm;have rf:fv=.J0 a:=rf;subst rf;have M0:(Lb T ih a L1 R1).P1 P X:=M0;unfold Lb at M0;cases he:UF a with
  |no=>
   ext;rw[he]at M0;exact C4
  |fn p b=>
   rw[he]at M0;obtain⟨fo⟩:=FT a p b (.S2 he);ext;exact a40 BF HS fo D6 gd r P X M0
  |i7 k p b=>
   rw[he]at M0;have M0:((match T.i7 k L1 R1 with|E0 o=>o|H0=>Kh ih p b L1 R1):H7 PV).P1 P X:=M0;cases ho:T.i7 k L1 R1 with
   |E0 o=>
    ext;rw[ho]at M0;exact HO he D6 gd r ho M0
   |H0=>
    rw[ho]at M0;obtain⟨fo⟩:=FT a p b (.L2 ⟨k,he⟩);ext;exact a40 BF HS fo D6 gd r P X M0
  |O2 k=>
   rw[he]at M0;have M0:(Jb ih a k L1 R1).P1 P X:=M0;cases hk:PI with
   |I0=>
    unfold Jb at M0;rw[hk]at M0;have M0:(F1 (y5 52 (Lh L1)) (λ d=>Ib R0 a d) R1).P1 P X:=M0;obtain⟨fl,hf,M0⟩:=u9 (j6 M0);ext;exact A60 BF XI (L60 he hk) gd D6.dp r hf P X M0
   |R0=>
    obtain⟨co⟩:=CT a k he hk;ext;exact oK0 HC co hk D6 gd r P X M0
 |J0 i=>
  symm;obtain⟨hi,O⟩:=rf;have M0:((match P3 i with|.qA _=>Mh L1|_=>F2 54) R1).P1 P X:=M0;cases hx:P3 i with
  |qA j=>
   rw[hx]at M0;have ob:=cL i hi;rw[hx]at ob;have ob:cU j W0 (Y2 i):=ob;rw[LB]at ob;ext;exact ZO0 BF D6 gd ob r P X M0
  |_=>
   ext;rw[hx]at M0;exact C4
 |_=>exact C4
theorem qw{M:YB}{a:H1}{o:D4}{fd:PH}(ho:F3 a=E0 o)(hd:I9=.XG fd):VT M s (.J0 a):=λ A Q E h=>by
 refine S0 (yl ho ?_);rw[hd];exact E2 (h _ (.S2 O))
theorem cO0{XB:ZE B T}(CT:aD B T)(FT:bk B g cl T)(LB:cU=λ _=>xQ):Wj B (K6 FZ T ih):=by
 intro A G s f L1 fv P X gd rf M0;cases f using Q3 with
 |Y0 a=>
  have rf:fv=.J0 a:=rf;subst rf;have M0:(Lb T ih a L1 R1).P1 P X:=M0;unfold Lb at M0;have fn:∀{p b},(UF a=.fn p b\/∃k,UF a=.i7 k p b)->VT R2 s (.J0 a):=λ h=>by
   obtain⟨fo⟩:=FT a _ _ h;exact qw (IC a fo.o Uo Oo (by rw[Uf];decide) (by rw[Uf];decide)) D10
  cases he:UF a with
  |no=>rw[he]at M0;exact C4
  |fn p b=>exact fn (.S2 he)
  |i7 k p b=>exact fn (.L2 ⟨k,he⟩)
  |O2 k=>
   cases hk:PI with
   |I0=>
    obtain⟨xk,hxa,_,E8,_⟩:=UU a (L60 he hk);intro A' Q' E' h';rw[<-hxa];obtain⟨hh,gg,dd,tt,os⟩:=s;exact q50 (E8 _ IC) (h' _ (.L2 (.S2 O)))
   |R0=>
    obtain⟨co⟩:=CT a k he hk;intro A' Q' E' h';have hC:=co.q8 gd;obtain⟨hh,gg,dd,tt,os⟩:=s;exact LT0 hC (h' _ (.L2 (.S2 O)))
 |J0 i=>
  obtain⟨hi,O⟩:=rf;have M0:((match P3 i with|.qA _=>Mh L1|_=>F2 54) R1).P1 P X:=M0;generalize hx:P3 i=zo at M0;cases zo using FA with
  |qA j=>
   have ob:=cL i hi;rw[hx]at ob;have ob:cU j W0 (Y2 i):=ob;rw[LB]at ob;obtain⟨_,_,_,_,_,_,_,_,_,_,BG,_⟩:=ob;exact qw BG O
  |_=>exact C4
 |_=>exact C4
end
section
open PyProof.Rows
variable{B:Bs}{A:Around}{G G':Gh}{s s':Shared}{F:Addr->Prop}{FZ:Nat->Bool}
variable{g:Nat->Option PV}{cl:Nat->Nat}{n:Nat}{ih:C5}{T:Tab}{cenv:Env}{L:Kinds}{env:PV}{k:Nat}
def ye:Mk->u0
 |.Q0=>"tuple"|.M1=>"list"|.H2=>"dict"
def ud(B:Bs)(g:C0->Q1 PV)(cl:C0->C0)(n:C0)(E:C5):Prop:=
 ∀{A:C6}{G:Gh}{s:D1}{N0:o6}{L:z5}{O0:PV}{k:C0}{m:Mk}{a:C1}{p q:T3},G5 B n A N0 L O0 G s->E7 L (ye m)=I0->Q8 a=I0->
  V4 B RV N2 A (eMk E m (cI (cE g cl k L) L a) O0) (Q5 (.C7 (.u3 (ye m) p) [a] [] q) N0) G s
def vd(B:Bs)(n:C0):Prop:=∀{A:C6}{G:Gh}{s:D1}{y:PV}{v:K0},O8 n A->J1 B A G s->H3 G W0 y v->V4 B RV N2 A (b1 .Ym y) (X7 (.Z4 "sorted") [v]) G s
structure Lv(B:Bs)(g:C0->Q1 PV)(cl:C0->C0)(n:C0)(E:C5):Prop where
 B6:z7 B g cl n E
 OC:kQ B g cl n E
 AE:xJ B g cl n E
 K2:rO B n E
 ck:Wj B E
 fl:Ak B g cl n E
 wl:Ck B g cl n E
 cp:xY B g cl n E
 xo:vv B g cl n E
 tr:Aw B g cl n E
 B0:zv g cl E
theorem dO0{op:C_}{o:nK}(h:Rh op=E0 o):op=Ju o:=by
 cases op<;>first|(cases h;rfl)|contradiction
theorem pT{nm x:u0}(h:x9 L nm x=I0):x=nm/\E7 L x=I0:=QM0 h
theorem xd(BF:S7 B g){x:u0}{v:K0}(h:(x,v)∈[((("len":u0)),UW "len"),("isinstance",.Z4 "isinstance"),("sorted",.Z4 "sorted"),("str",.U0 "str"),("tuple",.U0 "tuple"),("list",.U0 "list"),("dict",.U0 "dict"),
  ("zip",.U0 "zip"),("enumerate",.U0 "enumerate"),("range",.U0 "range")]):VF x=H0/\UJ x=E0 v:=CO x v h
theorem eO0(LV:Lv B g cl n ih)(BF:S7 B g)(HM:ud B g cl n ih)(qT:vd B n)(X:G5 B n A N0 L O0 G s){x:u0}{p q:T3}{L1:P0 C1}(hf:yB L1=I0)(HN:V4 B RV N2 A (Qq ih (cE g cl k L (.u3 x p)) (R8 (cE g cl k L) L1) O0) (Q5 (.C7 (.u3 x p) L1 [] q) N0) G s):
  V4 B RV N2 A (sE FZ T ih (Uh (cE g cl k L) L x p L1) O0) (Q5 (.C7 (.u3 x p) L1 [] q) N0) G s:=by
 cases L1 using i5 with
 |B0=>exact HN
 |A0 a r=>
  cases r using i5 with
  |B0=>
   have ha:=Qd hf;show V4 B RV N2 A (sE FZ T ih (kq (cE g cl k L) L x p a) O0) _ G s
   delta kq
   cases h1:x9 L "len" x with
   |I0=>
    obtain⟨O,hg⟩:=pT h1;intro P Q M0;exact vV BF y8 X (xd BF (.J8 _)) hg (by decide) (λ s=>sV) ha (f:=b1 .Z5) M0 λ G1 s1 y u C2 g1 ru E4=>(lL0 g1 ru).I8 C2 E4
   |R0=>
    cases h2:x9 L "sorted" x with
    |I0=>
     obtain⟨O,hg⟩:=pT h2;intro P Q M0;exact vV BF y8 X (xd BF (.x7 _ (.x7 _ (.J8 _)))) hg (by decide) (λ s=>sV) ha (f:=b1 .Ym) M0 λ G1 s1 y u C2 g1 ru E4=>(qT iD g1 ru).I8 C2 E4
    |R0=>
     cases h3:x9 L "str" x with
     |I0=>
      obtain⟨O,hg⟩:=pT h3;intro P Q M0;exact vV BF y8 X (xd BF (.x7 _ (.x7 _ (.x7 _ (.J8 _))))) hg (by decide) (λ s=>GN) ha (f:=b1 .Z0) M0 λ G1 s1 y u C2 g1 ru E4=>(pL0 g1 ru).I8 C2 E4
     |R0=>
      cases h4:x9 L "tuple" x with
      |I0=>
       obtain⟨O,hg⟩:=pT h4;exact HM (m:=.Q0) X hg ha
      |R0=>
       cases h5:x9 L "list" x with
       |I0=>
        obtain⟨O,hg⟩:=pT h5;exact HM (m:=.M1) X hg ha
       |R0=>
        cases h6:x9 L "dict" x with
        |I0=>
         obtain⟨O,hg⟩:=pT h6;exact HM (m:=.H2) X hg ha
        |R0=>exact HN
  |A0 b r'=>
   cases r' using i5 with
   |A0=>exact HN
   |B0=>
    show V4 B RV N2 A (sE FZ T ih (lq (cE g cl k L) L x p a b) O0) _ G s
    delta lq
    cases hb:V7 b with
    |H0=>exact HN
    |E0 y=>
     obtain⟨q',O⟩:=LY hb;show V4 B RV N2 A (sE FZ T ih (bif x9 L "isinstance" x then(bif x9 L "tuple" y then .b1 .vg (cE g cl k L a)else .M2)else _) O0) _ G s;cases h1:x9 L "isinstance" x with
     |I0=>
      cases h2:x9 L "tuple" y with
      |R0=>exact FD
      |I0=>
       obtain⟨O,hg⟩:=pT h1;obtain⟨O,Zk⟩:=pT h2;have ha:Q8 a=I0:=by
        have:=(mY hf).2;simp only[Gc,N5]at J2;exact J2.1
       intro P Q M0;have M0:(F1 (R5 (cE g cl k L a) O0) (λ y=>F1 (y5 23 (xy y)) λ b=>W1 (.O3 b)) R1).P1 P Q:=M0;refine mM (Od BF X (xd BF (.x7 _ (.J8 _))) hg (by decide) ?_);have E4:[a,.u3 "tuple" q'].dA Q8=I0:=(mY hf).2;refine AJ (by rw[IL E4];rfl) (BJ E4 ?_);rw[zI ha];refine zD ((y8 X).s8 M0 λ G1 s1 y u C2 g1 ru B5=>?_);refine zD (Od BF (KC C2 g1) (xd BF (.x7 _ (.x7 _ (.x7 _ (.x7 _ (.J8 _)))))) Zk (by decide) (JJ ⟨sV,?_⟩));exact(nL0 g1 ru).I8 C2 B5
     |R0=>exact HN
theorem fO0(LV:Lv B g cl n ih){BF:S7 B g}(MB:zV BF)(LB:cU=λ _=>xQ)(CT:aD B T)(ON:AF)(PO:ku B FZ n)(HM:ud B g cl n ih)(qT:vd B n):∀(k:C0){A:C6}{G:Gh}{s:D1}{N0:o6}{L:z5}{O0:PV}{e:C1},
  G5 B n A N0 L O0 G s->V4 B RV N2 A (sE FZ T ih (cE g cl k L e) O0) (Q5 e N0) G s:=by
 intro zq;induction zq with
 |K9=>
  intro A G s N0 L O0 e X;exact FD
 |J9 k ih=>
  intro A G s N0 L O0 e X;have sh:=cC0 g cl (k:=k) (L:=L) (e:=e);generalize cE g cl (k+1) L e=q at sh ⊢;cases sh using CE.n8 with
  |M2=>exact FD
  |const=>exact qK0 X
  |W2=>exact pK0 BF X
  |P20 op e1 p=>
   have e0:Q5 (.rB op [e1] p) N0=Q5 e1 N0:=by rw[mT0,RT0,arm_evalEach_nil];rfl
   exact ih X
  |Q20=>exact ML0 y8 X
  |L6 l op r p o ho=>rw[dO0 ho];exact rK0 y8 X
  |hH=>exact sK0 PX y8 X
  |R20=>exact JL0 X
  |K7=>exact tK0 PX y8 X
  |Q0 es j p hf=>exact uK0 y8 X hf
  |M1 es p hf=>exact vK0 y8 X hf
  |H2 ks vs p hf=>exact zK0 y8 X hf
  |J7 Y5 Q4 it A7 sc p hf=>exact tM0 BF y8 LV.cp X hf
  |S1=>exact EL0 y8 X
  |Sb o x ap L1 p h1 h2 h3=>exact VL0 CT ON PO y8 dB0 LV.ck X h1 h2 h3
  |K2 x p L1 q hf=>exact eO0 LV BF HM qT X hf (TL0 y8 dB0 LV.ck X hf)
  |Z1 o x p hf=>exact GL0 CT ON y8 X hf
  |iE=>exact IL0 y8 X
  |BQ=>exact KL0 y8 X
  |w0=>exact HL0 y8 X
  |qA a b sc p hf=>exact TO0 MB LB X hf
end
section
open PyProof.Rows
variable{B:Bs}{A:Around}{G G':Gh}{s s':Shared}{F:Addr->Prop}{FZ:Nat->Bool}
variable{g:Nat->Option PV}{cl:Nat->Nat}{n:Nat}{ih:C5}{T:Tab}{cenv:Env}{L:Kinds}{env:PV}{k:Nat}
set_option backward.match.sparseCases true in
theorem gO0{op:rB}{e1:C1}{p:T3}{w:Y7 K0}{Q:I1->D1->Prop}{E:K0->D1->Prop}(h:V0 R2 A (WH e1 N0 (Q5 e1 N0)) Q E s):V0 R2 A (WH (.rB op [e1] p) N0 w) Q E s:=by
 have e0:WH (.rB op [e1] p) N0 w=(do match op,<-WH e1 N0 (Q5 e1 N0)with|.MM,R0=>L4 R0|.Or,I0=>L4 I0|_,_=>L4 (op==.MM)):=by rfl
 rw[e0];refine S0 (V3 h (λ b s' h'=>?_) λ _ _ x=>x);cases op<;>cases b using o7<;>exact E2 h'
inductive xO:C1->Prop
 |hH(x:C1)(p:T3):xO (.fD .dX x p)
 |b0(op:rB)(p:T3):xO (.rB op [] p)
 |b1(op:rB)(e1:C1)(p:T3):xO (.rB op [e1] p)
 |D8(e1 e2:C1)(r:P0 C1)(p:T3):xO (.rB .MM (e1::e2::r) p)
 |or(e1 e2:C1)(r:P0 C1)(p:T3):xO (.rB .Or (e1::e2::r) p)
 |K7(c a b:C1)(p:T3):xO (.aU c a b p)
 |S1(l:C1)(nI:P0 jE)(rs:P0 C1)(p:T3):xO (.aP l nI rs p)
 |xF{e:C1}(h:∀N0 w,WH e N0 w=(do let v <-w;UK e.D2;UH [v] (kA0 v))):xO e
theorem hO0(e:C1):xO e:=by
 cases e using j9 with
 |fD op x p=>
  cases op using fD.n8 with
  |dX=>exact .hH x p
  |_=>exact .xF λ _ _=>O
 |rB op vs p=>
  cases vs using i5 with
  |B0=>exact .b0 op p
  |A0 e1 r=>
   cases r using i5 with
   |B0=>exact .b1 op e1 p
   |A0 e2 r=>
    cases op using rB.n8 with
    |MM=>exact .D8 e1 e2 r p
    |Or=>exact .or e1 e2 r p
 |aU c a b p=>exact .K7 c a b p
 |aP l nI rs p=>exact .S1 l nI rs p
 |_=>exact .xF λ _ _=>O
theorem iO0(LV:Lv B g cl n ih)(HE:∀(k:C0){A:C6}{G:Gh}{s:D1}{N0:o6}{L:z5}{O0:PV}{e:C1},G5 B n A N0 L O0 G s->V4 B RV N2 A (sE FZ T ih (cE g cl k L e) O0) (Q5 e N0) G s):∀(k:C0){A:C6}{G:Gh}{s:D1}{N0:o6}{L:z5}{O0:PV}{e:C1},
  G5 B n A N0 L O0 G s->V4 B RT N2 A (F1 (sE FZ T ih (cE g cl k L e) O0) lC) (WH e N0 (Q5 e N0)) G s:=by
 intro k;induction k with
 |K9=>
  intro A G s N0 L O0 e X;exact FD
 |J9 k ihk=>
  intro A G s N0 L O0 e X;have sh:=hO0 e;cases sh using xO.n8 with
  |hH x p=>exact OL0 PX X
  |b0 op p=>exact FD
  |b1 op e1 p=>exact λ P Q M0=>gO0 (ihk (e:=e1) X P Q M0)
  |D8 e1 e2 r p=>exact QL0 PX X
  |or e1 e2 r p=>exact RL0 PX X
  |K7 c a b p=>exact PL0 PX X
  |S1 l nI rs p=>
   cases nI using i5 with
   |B0=>exact FD
   |A0 op nI=>
   cases nI using i5 with
   |A0 _ _=>exact FD
   |B0=>
   cases rs using i5 with
   |B0=>exact FD
   |A0 r rs=>
   cases rs using i5 with
   |A0 _ _=>exact FD
   |B0=>exact FL0 y8 X
  |xF h=>exact NL0 (HE (k+1) X) (h N0 _)
theorem jO0{e:C1}{YH:C0}(h:Vb e=R0):DW0 e H0 YH N0=L4 R0:=by cases e using j9<;>first|rfl|contradiction
theorem kO0(LV:Lv B g cl n ih){BF:S7 B g}(MB:zV BF){XB:ZE B T}(XI:AK BF cl XB)(CT:aD B T)(ON:AF):∀(k:C0){A:C6}{G:Gh}{s:D1}{N0:o6}{L:z5}{O0:PV}{st:P0 P5},
  G5 B n A N0 L O0 G s->uO B A N0 L (Ph FZ T ih (cS g cl k L st) O0) st G s:=by
 intro zq;induction zq with
 |K9=>
  intro A G s N0 L O0 e X;exact λ P Q M0=>C4
 |J9 k ih=>
  intro A G s N0 L O0 st X;have sh:=sC0 g cl (k:=k) (L:=L) (st:=st);generalize cS g cl (k+1) L st=q at sh ⊢;cases sh using CS.n8 with
  |M2=>exact λ P Q M0=>C4
  |B0=>exact λ P Q M0=>KP ⟨G,.W4 O0,.M5 ..,ZB,VR,M0⟩
  |B6 e p r h=>exact IN0 y8 ZP X (jO0 h)
  |pas=>exact λ P Q M0=>AB (wpAny_Pass (ih X P Q M0))
  |cB=>exact KN0 X
  |bB=>exact LN0 X
  |U1=>exact JN0 y8 X
  |Z20 p r=>
   intro P Q M0;refine AB ?_;have e0:exec (.WK H0 p) N0=(do UK p;let v <-(L4 IF:Y7 K0);L4 (.U1 v)):=O;have h:=(y8 (k:=1) (e:=.H8 .H0 0 p) X).u50 (F:=D5 N0 L) M0 (K:=λ v s'=>(Po B (YE B N0) (D5 N0 L) A G s P (.U1 v) s')) λ G1 s1 a v C2 g1 ra E4=>⟨G1,.U1 a O0,iC λ _ q=>Q6,g1,ra,E4⟩;rw[ju]at h;exact S0 (BB (S0 (V3 h (λ v s' hv=>E2 hv) λ _ _ x=>x)))
  |V1 t e p r h1 h2 h3=>exact HN0 CT ON y8 LV.xo ZP X h1 h2 h3
  |K3=>exact MN0 PX ZP X
  |RE=>exact λ P Q M0=>hM0 BF y8 LV.fl ZP X M0
  |LM=>exact λ P Q M0=>iM0 LV.wl ZP X M0
  |Ub=>exact WN0 XB y8 X
  |XO b h hs p r hc=>exact MO0 BF XI LV.tr ZP X hc
  |p_ x a b sc p r h1 h2 h4=>exact SO0 MB ZP X h1 h2 h4
end
section
open PyProof.Rows
variable{B:Bs}{FZ:Nat->Bool}{g:Nat->Option PV}{cl:Nat->Nat}{n:Nat}{ih:C5}{T:Tab}
structure VM(B:Bs)(g:C0->Q1 PV)(cl:C0->C0)(T:mI)where
 BF:S7 B g
 MB:zV BF
 XB:ZE B T
 XI:AK BF cl XB
 CT:aD B T
 ON:AF
 FT:bk B g cl T
 LB:cU=λ _=>xQ
theorem fk(n:C0):Lv B g cl n K9 where
 B6 _:=λ P Q M0=>C4
 OC _:=λ P Q M0=>C4
 AE _ _ _ _:=λ P Q M0=>C4
 K2 _ _ _ _:=λ P Q M0=>C4
 ck _ _ M0:=C4
 fl _ _ _ _ M0 _ _:=C4
 wl _ M0 _ _:=C4
 cp _ _ _ _ _ _ _ _ _ _ _ _ _ M0 _ _:=C4
 xo _ _ M0:=C4
 tr _ _ M0:=C4
 B0 M0:=C4
theorem lO0(X:VM B g cl T)(LV:Lv B g cl n ih)(HO:qd B T (n+1))(HM:ud B g cl n ih)(qT:vd B n):Lv B g cl (n+1) (K6 FZ T ih):=by
 have he:=@fO0 B FZ g cl n ih T LV DO X.MB X.LB w_ Do (kL0 n) HM qT;exact{
  B6:=λ H=>he _ H.pred
  OC:=λ H=>iO0 LV (λ k=>he k) _ H.pred
  AE:=λ D6 es gd er=>kO0 LV X.MB X.XI w_ Do _ ⟨D6.J9,es,gd,er⟩
  K2:=bO0 DO X.XI w_ X.FT X.LB HO ZP dB0
  ck:=cO0 (XB:=X.XB) w_ X.FT X.LB
  fl:=dM0 w_ Do y8 ZP LV.fl
  wl:=fV0 PX ZP LV.wl
  cp:=pM0 y8 LV.cp
  xo:=GN0 DO y8 LV.cp
  tr:=YN0 w_ Do y8 LV.B0
  B0:=XN0}
theorem gk(X:VM B g cl T)(c:C0)(HO:∀m,qd B T (m+c+1))(HM:∀{n:C0}{ih:C5},Lv B g cl n ih->ud B g cl n ih)(qT:∀n,vd B n):∀m,Lv B g cl (m+c) (nD FZ T m)
 |0=>fk _
 |m+1=>by
  have LV:=gk X c HO HM qT m;have:=lO0 (FZ:=FZ) X LV (HO m) (HM LV) (qT _);rw[show m+1+c=m+c+1 by exact SZ _ _];exact J2
end
section
section
section
variable{prog:Program}{w:World}{A:Around}{E:Value->Shared->Prop}{s:Shared}
def BW(h:O1)(z TI TO:H1)(f0:K0)(b:I1):Prop:=C3 z=E0 {O2:=.U0 "zip",H2:=H0,M3:=.T5 #[f0,.O3 b,.O3 R0,.J0 TI,.J0 TO],LC:=#[]}
theorem f90{M:YB}{a:H1}{Q:Q1 D4->D1->Prop}(h:Q (F3 a) s):V0 M A (g90 a) Q E s:=λ Γ p bg=>h
theorem M60{z TI TO T0:H1}{b:I1}{o0:D4}{Q:I1->D1->Prop}(hz:BW W0 z TI TO (j5 T0) b)(h0:F3 T0=E0 o0)
  (hQ:∀h',BW h' z TI TO (j5 T0) I0->WA z W0 h'->Q R0 {s with B3:=h'}):V0 (U4 L3 w) A (AT (.J0 z)) Q E s:=by
 unfold AT;refine S0 (N7 hz O (x:=j5 T0) O ?_);show V0 _ _ (g90 (B2.qR (T0:B2))>>=_) _ _ _;refine S0 (f90 ?_);rw[h0];refine SI PG ?_;refine S0 (N7 hz O (x:=.O3 b) O ?_);cases b using o7 with
 |I0=>
  exact E2 (hQ _ hz (.M5 ..))
 |R0=>
  refine S0 (tI hz (by simp -w4) λ h' SO OD=>E2 (hQ h' SO OD))
theorem mO0{z TI TO i1 i2 l1 l2 T0:H1}{k1 k2:C0}{xs ys:M4 K0}{x y:K0}{b:I1}{o0:D4}{Q:K0->D1->Prop}(D:Ze z TI TO i1 i2 l1 l2)
  (hz:BW W0 z TI TO (j5 T0) b)(h0:F3 T0=E0 o0)(wB:jC W0 TI (.J0 i1) (.J0 i2))
  (h1:B7 W0 i1 l1 k1 xs)(h2:B7 W0 i2 l2 k2 ys)(hx:xs[k1]?=E0 x)(hy:ys[k2]?=E0 y)
  (hQ:∀h',BW h' z TI TO (j5 T0) I0->B7 h' i1 l1 (k1+1) xs->B7 h' i2 l2 (k2+1) ys->jC h' P2 x y->NB=P2+1->
   (∀c o,c≠z->c≠i1->c≠i2->F3 c=E0 o->D3 c=E0 o)->Q (.J0 P2) {s with B3:=h'}):
  V0 (U4 L3 w) A (MA.«zip.__next__» ⟨[.J0 z],[]⟩) (λ O6 s'=>∃v,O6=.ND (.U1 v)/\Q v s') E s:=by
 show V0 _ _ (NC (.J0 z) 2>>=_) _ _ _;refine S0 (N7 hz O (x:=.O3 R0) O ?_);show V0 _ _ (NC (.J0 z) 3>>=_) _ _ _;refine S0 (N7 hz O (x:=.J0 TI) O ?_);refine S0 (DK wB O ?_);show V0 _ _ (AT (.J0 z)>>=_) _ _ _;refine S0 (M60 hz h0 λ n5 DN BE=>?_);refine S0 ?_;rw[<-AV0];simp -w4 only[PW,pk];refine S0 (S0 (A8 ?_));show V0 _ _ (FR (.J0 i1)>>=_) _ _ _;refine S0 (XT (Z_ xC eP sR) hx λ u7 qY mB=>E2 (E2 ?_));refine S0 (S0 (A8 ?_));show V0 _ _ (FR (.J0 i2)>>=_) _ _ _;refine S0 (XT ((wz xC BO V_).vB KH Om km) hy λ e8 nO0 zG=>E2 (E2 (E2 ?_)));refine S0 (wt (Z7:=by show 2<=aA;rw[LI];exact u6 O) ?_);have Z7:wb=P2:=by rw[zG.1,mB.1,BE.1]
 have Av:BW e8 z TI TO (j5 T0) I0:=KF _ _ BO.Z3 (KH _ _ Qy DN);have oO0:=qY.vB KF D.i12 qA0;refine E2 ⟨_,O,?_⟩;show Q (.J0 wb) _;rw[Z7];refine hQ _ (T6 _ Av) (oO0.at (λ o e=>T6 _ e) λ o e=>T6 _ e) (nO0.at (λ o e=>T6 _ e) λ o e=>T6 _ e) ?_ (by rw[bD,Z7]) λ c o c1 c2 c3 e=>T6 _ (KF _ _ c3 (KH _ _ c2 (xC _ _ c1 e)));rw[<-Z7];exact DA _ O
theorem pO0{z TI TO i1 i2 l1 l2 T0:H1}{k1 k2:C0}{xs ys:M4 K0}{b:I1}{o0:D4}{Q:EP.jH->D1->Prop}(hh:F9=H0)(D:Ze z TI TO i1 i2 l1 l2)
  (hz:BW W0 z TI TO (j5 T0) b)(h0:F3 T0=E0 o0)(wB:jC W0 TI (.J0 i1) (.J0 i2))
  (h1:B7 W0 i1 l1 k1 xs)(h2:B7 W0 i2 l2 k2 ys)(tU:xs[k1]?=H0\/ys[k2]?=H0)
  (hE:∀h' e,(∀c o,c≠z->c≠i1->c≠i2->F3 c=E0 o->D3 c=E0 o)->(∃o,D3 e=E0 o/\H4=.U0 "StopIteration")->E (.J0 e) {s with B3:=h'}):
  V0 (U4 L3 w) A (MA.«zip.__next__» ⟨[.J0 z],[]⟩) Q E s:=by
 show V0 _ _ (NC (.J0 z) 2>>=_) _ _ _;refine S0 (N7 hz O (x:=.O3 R0) O ?_);show V0 _ _ (NC (.J0 z) 3>>=_) _ _ _;refine S0 (N7 hz O (x:=.J0 TI) O ?_);refine S0 (DK wB O ?_);show V0 _ _ (AT (.J0 z)>>=_) _ _ _;refine S0 (M60 hz h0 λ n5 DN BE=>?_);refine S0 ?_;rw[<-AV0];simp -w4 only[PW,pk];refine S0 (S0 (A8 ?_));show V0 _ _ (FR (.J0 i1)>>=_) _ _ _;cases hx:xs[k1]? with
 |H0=>exact S0 (pY hh (Z_ xC eP sR) hx λ u7 e mB he ti=>hE u7 e (λ c o c1 c2 _ x=>mB _ _ c2 (xC _ _ c1 x)) he)
 |E0 x=>
  have hy:ys[k2]?=H0:=by rcases tU with h|h;rw[hx]at h;contradiction;exact h
  refine S0 (XT (Z_ xC eP sR) hx λ u7 qY mB=>E2 (E2 ?_));refine S0 (S0 (A8 ?_));show V0 _ _ (FR (.J0 i2)>>=_) _ _ _;exact S0 (pY hh ((wz xC BO V_).vB KH Om km) hy λ e8 e zG he ti=>hE e8 e (λ c o c1 c2 c3 x=>zG _ _ c3 (KH _ _ c2 (xC _ _ c1 x))) he)
structure CW(h:O1)(z TI TO i1 i2 l1 l2:H1)(xs ys:M4 K0)(k:C0):Prop where
 D:Ze z TI TO i1 i2 l1 l2
 wB:jC h TI (.J0 i1) (.J0 i2)
 s1:B7 h i1 l1 k xs
 s2:B7 h i2 l2 k ys
 to:∃o,C3 TO=E0 o
 z:(zF h z TI TO .H0/\jC h TO .H0 .H0)\/∃T0 o0 b,BW h z TI TO (j5 (T0:C0)) b/\C3 T0=E0 o0/\T0≠z/\T0≠i1/\T0≠i2
theorem CW.vB{h h':O1}{z TI TO i1 i2 l1 l2:H1}{xs ys:M4 K0}{k:C0}{S:H1}(x:CW h z TI TO i1 i2 l1 l2 xs ys k)(hk:∀b o,b≠S->C3 b=E0 o->D3 b=E0 o)(hS:S≠z/\S≠TI/\S≠TO/\S≠i1/\S≠i2/\S≠l1/\S≠l2)
  (hT:∀o,C3 S=E0 o->∃o',D3 S=E0 o'):CW h' z TI TO i1 i2 l1 l2 xs ys k:=by
 refine⟨x.D,hk _ _ (H9 hS.2.1) GX,x_.at (λ o e=>hk _ _ (H9 hS.2.2.2.1) e) λ o e=>hk _ _ (H9 hS.2.2.2.2.2.1) e,aX.at (λ o e=>hk _ _ (H9 hS.2.2.2.2.1) e) λ o e=>hk _ _ (H9 hS.2.2.2.2.2.2) e,by obtain⟨o,e⟩:=x.to;exact⟨o,hk _ _ (H9 hS.2.2.1) e⟩,?_⟩;rcases DQ with⟨h1,h2⟩|⟨T0,o0,b,h1,h2,h3⟩
 ·exact .S2 ⟨hk _ _ (H9 hS.1) h1,hk _ _ (H9 hS.2.2.1) h2⟩
 ·by_cases q:T0=S
  ·obtain⟨o',e'⟩:=hT o0 (q▸h2);exact .L2 ⟨T0,o',b,hk _ _ (H9 hS.1) h1,q▸e',h3⟩
  ·exact .L2 ⟨T0,o0,b,hk _ _ (H9 hS.1) h1,hk _ _ q h2,h3⟩
end
end
end
section
section
section
variable{prog:Program}{w:World}{A:Around}{E:Value->Shared->Prop}{s:Shared}
structure Wk(L3:tL)(w:N4)(A:C6)(I:H1)(W F:P0 H1)(n:C0)(P:C0->K0->K0->Prop)(St:C0->O1->Prop):Prop where
 w0:∀b∈W,b∈F
 l9:∀k h,St k h->∀b∈F,∃o,C3 b=E0 o
 HD:∀k h h' S,S∉F->St k h->(∀b o,b≠S->C3 b=E0 o->D3 b=E0 o)->(∀o,C3 S=E0 o->∃o',D3 S=E0 o')->St k h'
 EM:∀k(s:D1)(Q:Q1 K0->D1->Prop)(E:K0->D1->Prop),k<n->St k W0->
  (∀h' tk T x y,D3 T=E0 (F8 [x,y] 0)->F3 T=H0->P k x y->St (k+1) h'->(∀b o,b∉W->F3 b=E0 o->D3 b=E0 o)->Q (E0 (.J0 T)) {s with B3:=h',B4:=tk})->V0 (U4 L3 w) A (vF (.J0 I)) Q E s
 ND:∀(s:D1)(Q:Q1 K0->D1->Prop)(E:K0->D1->Prop),St n W0->(∀h',(∀b o,b∉W->F3 b=E0 o->D3 b=E0 o)->Q H0 {s with B3:=h'})->V0 (U4 L3 w) A (vF (.J0 I)) Q E s
theorem jk(hh:F9=H0){z TI TO i1 i2 l1 l2:H1}{xs ys:M4 K0}:
  Wk L3 w A z [z,TO,i1,i2] [z,TO,i1,i2,TI,l1,l2] (xB VK kf) (λ k x y=>xs[k]?=E0 x/\ys[k]?=E0 y) (λ k h=>CW h z TI TO i1 i2 l1 l2 xs ys k)where
 w0:=λ b hb=>by simp only[uD,vD,eE]at hb ⊢;rcases hb with h|h|h|h<;>simp[h]
 l9:=λ k h x b hb=>by
  symm;obtain⟨⟨o1,e1,_⟩,⟨o2,e2,_⟩⟩:=x_.l9;obtain⟨⟨o3,e3,_⟩,⟨o4,e4,_⟩⟩:=aX.l9;have hz:(∃o,C3 z=E0 o):=by
   rcases DQ with⟨h1,_⟩|⟨_,_,_,h1,_⟩
   ·exact⟨_,h1⟩
   ·exact⟨_,h1⟩
  simp only[uD,vD,eE]at hb;rcases hb with O|O|O|O|O|O|O
  ·ext;exact hz
  ·ext;exact x.to
  ·ext;exact⟨_,e1⟩
  ·ext;exact⟨_,e3⟩
  ·ext;exact⟨_,GX⟩
  ·ext;exact⟨_,e2⟩
  ·ext;exact⟨_,e4⟩
 HD:=λ k h h' S hS x hk hT=>by
  symm;simp only[uD,vD,eE,tN]at hS;obtain⟨q1,q2,q3,q4,q5,q6,q7⟩:=hS;ext;exact x.vB hk ⟨q1,q5,q2,q3,q4,q6,q7⟩ hT
 EM:=λ k s Q E hk x hQ=>by
  symm;have hx:xs[k]?=E0 xs[k]:=by rw[lh]
  have hy:ys[k]?=E0 ys[k]:=by rw[lh]
  have D:=x.D;have lD:F3 P2=H0:=TE (B8 _);ext;have EZ:∀{a:H1},(∃o,F3 a=E0 o)->P2≠a:=λ zz q=>DM zz λ o e=>by rw[<-q,lD]at e;contradiction
  symm;obtain⟨⟨o1,e1,_⟩,_⟩:=x_.l9;obtain⟨⟨o3,e3,_⟩,_⟩:=aX.l9;rcases DQ with⟨hz,rA⟩|⟨T0,o0,b,hz,h0,t1,t2,t3⟩
  ·have hT:fC (.J0 z) "zip":=⟨_,hz,O⟩;ext;refine S0 (JI (lF (W2:=EA "__next__") hT RL
    (TC RL hT Kb (p40 D hz GX rA x_ aX hx hy λ h' SO kj Kd og kK Z7 hk=>E2 ?_) (Db _))))
   refine hQ h' X4 _ xs[k] ys[k] kK lD ⟨hx,hy⟩ ⟨D,hk _ _ D.TIz D.TITO D.TIi1 D.TIi2 GX,Kd,og,⟨_,kj⟩,.L2 ⟨_,_,R0,SO,kK,EZ ⟨_,hz⟩,EZ ⟨_,e1⟩,EZ ⟨_,e3⟩⟩⟩ λ c o hc e=>?_;simp only[uD,vD,eE,tN]at hc;exact hk c o hc.1 hc.2.1 hc.2.2.1 hc.2.2.2 e
  ·have hT:fC (.J0 z) "zip":=⟨_,hz,O⟩;ext;refine S0 (JI (lF (W2:=EA "__next__") hT RL
    (TC RL hT Kb (mO0 D hz h0 GX x_ aX hx hy λ h' SO Kd og kK Z7 hk=>E2 ?_) (Db _))))
   refine hQ h' X4 _ xs[k] ys[k] kK lD ⟨hx,hy⟩ ⟨D,hk _ _ D.TIz D.TIi1 D.TIi2 GX,Kd,og,?_,.L2 ⟨T0,o0,I0,SO,hk _ _ t1 t2 t3 h0,t1,t2,t3⟩⟩ λ c o hc e=>?_
   ·obtain⟨o,e⟩:=x.to;exact⟨o,hk _ _ zN K_ ue e⟩
   ·simp only[uD,vD,eE,tN]at hc;exact hk c o hc.1 hc.2.2.1 hc.2.2.2 e
 ND:=λ s Q E x hQ=>by
  symm;have D:=x.D;have tU:xs[xB VK kf]?=H0\/ys[xB VK kf]?=H0:=by
   by_cases q:VK<=kf
   ·left;rw[n80];exact MP (uj ‹_›).Z3
   ·right;rw[n80];exact MP (wT0 (C90 ‹_›)).Z3
  rcases DQ with⟨hz,rA⟩|⟨T0,o0,b,hz,h0,t1,t2,t3⟩
  ·have hT:fC (.J0 z) "zip":=⟨_,hz,O⟩;obtain⟨⟨o3,e3,_⟩,_⟩:=aX.l9;ext;refine S0 (JI (lF (W2:=EA "__next__") hT RL
    (TC RL hT Kb (t40 hh D hz GX rA x_ ⟨_,e3⟩ (tU.QM id λ h=>⟨aX,h⟩) λ h' e hk he ha=>?_) (Db _))))
   obtain⟨o,ho,hc⟩:=he;refine S0 (AU (T:="StopIteration") (b:=I0) ⟨o,ho,hc⟩ eZ ?_);refine E2 (hQ h' λ c o hc e=>?_);simp only[uD,vD,eE,tN]at hc;exact hk c o hc.1 hc.2.1 hc.2.2.1 hc.2.2.2 e
  ·have hT:fC (.J0 z) "zip":=⟨_,hz,O⟩;ext;refine S0 (JI (lF (W2:=EA "__next__") hT RL
    (TC RL hT Kb (pO0 hh D hz h0 GX x_ aX tU λ h' e hk he=>?_) (Db _))))
   obtain⟨o,ho,hc⟩:=he;refine S0 (AU (T:="StopIteration") (b:=I0) ⟨o,ho,hc⟩ eZ ?_);refine E2 (hQ h' λ c o hc e=>?_);simp only[uD,vD,eE,tN]at hc;exact hk c o hc.1 hc.2.2.1 hc.2.2.2 e
end
end
end
section
section
section
variable{prog:Program}{w:World}{A:Around}{E:Value->Shared->Prop}{s:Shared}
def PN(h:O1)(e it:H1)(k:C0)(f0:K0)(b:I1)(N8:K0):Prop:=C3 e=E0 {O2:=.U0 "enumerate",H2:=H0,M3:=.T5 #[f0,.O3 b,.J0 it,j5 k,.H0,N8],LC:=#[]}
theorem qO0{e it l T0:H1}{k:C0}{H5:M4 K0}{x N8:K0}{b:I1}{o0:D4}{Q:K0->D1->Prop}
  (he:PN W0 e it k (j5 T0) b N8)(h0:F3 T0=E0 o0)(t1:T0≠e)(t2:T0≠it)(D7:B7 W0 it l k H5)(hx:H5[k]?=E0 x)(Z6:e≠it)(lH:l≠e)
  (hQ:∀h',PN h' e it (k+1) (j5 T0) I0 N8->B7 h' it l (k+1) H5->
   D3 P2=E0 {O2:=.U0 "tuple",M3:=.W5 #[.j0 k X4,x]}->
   (∀b o,b≠e->b≠it->F3 b=E0 o->D3 b=E0 o)->Q (.J0 P2) {s with B3:=h',B4:=X4+1}):
  V0 (U4 L3 w) A (MA.«enumerate.__next__» ⟨[.J0 e],[]⟩) (λ O6 s'=>∃v,O6=.ND (.U1 v)/\Q v s') E s:=by
 obtain⟨hp,g,d,tk,os⟩:=s;show V0 _ _ (NC (.J0 e) 2>>=_) _ _ _;refine S0 (N7 he O (x:=.J0 it) O ?_);refine S0 (XT D7 hx λ n5 YT BE=>?_);replace BE:WA it hp n5:=BE;have qO:PN n5 e it k (j5 T0) b N8:=(BE.2 e Z6).U2 he;show V0 _ _ (NC (.J0 e) 3>>=_) _ _ ⟨n5,g,d,tk,os⟩;refine S0 (N7 qO O (x:=j5 k) O ?_);show V0 _ _ (NC (.J0 e) 4>>=_) _ _ ⟨n5,g,d,tk,os⟩;refine S0 (N7 qO O (x:=.H0) O ?_);show V0 _ _ (mkInt k>>=_) _ _ ⟨n5,g,d,tk,os⟩;refine S0 (V90 ?_);show V0 _ _ (Ye (.J0 e) 3 (j5 ((k:B2)+1))>>=_) _ _ ⟨n5,g,d,tk+1,os⟩;refine S0 (tI qO (by simp) λ u7 wJ mB=>?_);replace mB:WA e n5 u7:=mB;replace wJ:PN u7 e it (k+1) (j5 T0) b N8:=wJ;show V0 _ _ (Ye (.J0 e) 4 .H0>>=_) _ _ ⟨u7,g,d,tk+1,os⟩;refine S0 (tI wJ (by simp) λ e8 AN zG=>?_);replace zG:WA e u7 e8:=zG;replace AN:PN e8 e it (k+1) (j5 T0) b N8:=AN;show V0 _ _ (bW0 [.j0 k tk,x]>>=_) _ _ ⟨e8,g,d,tk+1,os⟩;refine S0 (wt ?_);have Z7:wb=bW:=by rw[zG.1,mB.1,BE.1]
 have N60:∀b o,b≠e->b≠it->ff b=E0 o->e8.X5 b=E0 o:=λ b o sO TA hb=>KF b o sO (KH b o sO (xC b o TA hb));have rO0:B7 e8 it l (k+1) H5:=(YT.vB KH ZR lH).vB KF ZR lH;have nQ:PN (vf {O2:=.U0 "tuple",M3:=.W5 #[.j0 k tk,x]}) e it (k+1) (j5 T0) b N8:=T6 _ AN;show V0 _ _ (AT (.J0 e)>>=_) _ _ ⟨vf {O2:=.U0 "tuple",M3:=.W5 #[.j0 k tk,x]},g,d,tk+1,os⟩;refine S0 ?_;refine S0 (N7 nQ O (x:=j5 T0) O ?_);show V0 _ _ (g90 (B2.qR (T0:B2))>>=_) _ _ _;refine S0 (f90 ?_);rw[show O1.X5 (D1.B3 ⟨vf {O2:=.U0 "tuple",M3:=.W5 #[.j0 k tk,x]},g,d,tk+1,os⟩) T0=E0 o0 from T6 _ (N60 _ _ t1 t2 h0)];refine S0 (N7 nQ O (x:=.O3 b) O ?_);have O6:∀h',PN h' e it (k+1) (j5 T0) I0 N8->WA e (vf {O2:=.U0 "tuple",M3:=.W5 #[.j0 k tk,x]}) h'->Q (.J0 wb) ⟨h',g,d,tk+1,os⟩:=λ h' pI OD=>by
  rw[Z7];have up:∀b o,b≠e->e8.X5 b=E0 o->D3 b=E0 o:=λ b o hb x=>A10 b o hb (T6 _ x);refine hQ h' pI (rO0.at (λ o x=>up _ o ZR x) λ o x=>up _ o lH x) ?_ λ b o h1 h2 x=>up b o h1 (N60 b o h1 h2 x);have:=A10 wb _ (by rw[Z7];exact aW (r9 he)) (DA e8 (o:={O2:=.U0 "tuple",M3:=.W5 #[.j0 k tk,x]}) O);rw[Z7]at J2;exact J2
 cases b using o7 with
 |I0=>
  refine E2 ?_;refine SI PG ?_;exact E2 ⟨_,O,O6 _ nQ (.M5 ..)⟩
 |R0=>
  refine S0 (tI nQ (by simp) λ h' pI OD=>E2 ?_);dsimp only[Ps,D_];exact E2 ⟨_,O,O6 h' pI OD⟩
theorem sO0{e it l:H1}{k:C0}{H5:M4 K0}{f0 N8:K0}{b:I1}{Q:EP.jH->D1->Prop}(hh:F9=H0)
  (he:PN W0 e it k f0 b N8)(D7:B7 W0 it l k H5)(hx:H5[k]?=H0)
  (hE:∀h' x,bd it W0 h'->(∃o,D3 x=E0 o/\H4=.U0 "StopIteration")->E (.J0 x) {s with B3:=h'}):
  V0 (U4 L3 w) A (MA.«enumerate.__next__» ⟨[.J0 e],[]⟩) Q E s:=by
 show V0 _ _ (NC (.J0 e) 2>>=_) _ _ _;refine S0 (N7 he O (x:=.J0 it) O ?_);exact S0 (pY hh D7 hx λ h' x pI WO ti=>hE h' x pI WO)
structure ESt(h:O1)(e it l:H1)(xs:M4 K0)(k:C0):Prop where
 ne:e≠it
 nl:l≠e
 S4:B7 h it l k xs
 z:∃N8,PN h e it k .H0 R0 N8\/∃T0 o0 b,PN h e it k (j5 (T0:C0)) b N8/\C3 T0=E0 o0/\T0≠e/\T0≠it
theorem tO0(hh:F9=H0){e it l:H1}{xs:M4 K0}:
  Wk L3 w A e [e,it] [e,it,l] VK (λ k x y=>(∃t,x=.j0 k t)/\xs[k]?=E0 y) (λ k h=>ESt h e it l xs k)where
 w0:=λ b hb=>by simp only[uD,vD,eE]at hb ⊢;rcases hb with h|h<;>simp[h]
 l9:=λ k h x b hb=>by
  obtain⟨⟨o1,e1,_⟩,⟨o2,e2,_⟩⟩:=Qg.l9;have hz:(∃o,C3 e=E0 o):=by
   obtain⟨N8,h1|⟨_,_,_,h1,_⟩⟩:=DQ
   ·exact⟨_,h1⟩
   ·exact⟨_,h1⟩
  simp only[uD,vD,eE]at hb;rcases hb with O|O|O
  ·exact hz
  ·exact⟨_,e1⟩
  ·exact⟨_,e2⟩
 HD:=λ k h h' S hS x hk hT=>by
  simp only[uD,vD,eE,tN]at hS;obtain⟨q1,q2,q3⟩:=hS;refine⟨zR,Lg,Qg.at (λ o e=>hk _ _ (H9 q2) e) λ o e=>hk _ _ (H9 q3) e,?_⟩;obtain⟨N8,h1|⟨T0,o0,b,h1,h2,h3⟩⟩:=DQ
  ·exact⟨N8,.S2 (hk _ _ (H9 q1) h1)⟩
  ·refine⟨N8,.L2 ?_⟩;by_cases q:T0=S
   ·obtain⟨o',e'⟩:=hT o0 (q▸h2);exact⟨T0,o',b,hk _ _ (H9 q1) h1,q▸e',h3⟩
   ·exact⟨T0,o0,b,hk _ _ (H9 q1) h1,hk _ _ q h2,h3⟩
 EM:=λ k s Q E hk x hQ=>by
  have hx:xs[k]?=E0 xs[k]:=by rw[lh]
  have lD:F3 P2=H0:=TE (B8 _);have EZ:∀{a:H1},(∃o,F3 a=E0 o)->P2≠a:=λ zz q=>DM zz λ o e=>by rw[<-q,lD]at e;contradiction
  obtain⟨⟨o1,e1,_⟩,_⟩:=Qg.l9;obtain⟨N8,he|⟨T0,o0,b,he,h0,t1,t2⟩⟩:=DQ
  ·have hT:fC (.J0 e) "enumerate":=⟨_,he,O⟩;unfold vF;refine S0 (JI (lF (W2:=EA "__next__") hT CR
    (TC CR hT fi (v40 he Qg hx zR Lg λ h' pI Ld kK Z7 hk=>E2 ?_) (ph _))))
   refine hQ h' (X4+1) _ (.j0 k X4) xs[k] kK lD ⟨⟨_,O⟩,hx⟩ ⟨zR,Lg,Ld,_,.L2 ⟨_,_,R0,pI,kK,EZ ⟨_,he⟩,EZ ⟨_,e1⟩⟩⟩ λ c o hc e=>?_;simp only[uD,vD,eE,tN]at hc;exact hk c o hc.1 hc.2 e
  ·have hT:fC (.J0 e) "enumerate":=⟨_,he,O⟩;refine S0 (JI (lF (W2:=EA "__next__") hT CR
    (TC CR hT fi (qO0 he h0 t1 t2 Qg hx zR Lg λ h' pI Ld kK hk=>E2 ?_) (ph _))))
   refine hQ h' (X4+1) _ (.j0 k X4) xs[k] kK lD ⟨⟨_,O⟩,hx⟩ ⟨zR,Lg,Ld,_,.L2 ⟨T0,o0,I0,pI,hk _ _ t1 t2 h0,t1,t2⟩⟩ λ c o hc e=>?_;simp only[uD,vD,eE,tN]at hc;exact hk c o hc.1 hc.2 e
 ND:=λ s Q E x hQ=>by
  have he:∃f0 b N8,PN W0 e it VK f0 b N8:=by
   obtain⟨N8,h1|⟨_,_,_,h1,_⟩⟩:=DQ
   ·exact⟨_,_,_,h1⟩
   ·exact⟨_,_,_,h1⟩
  obtain⟨f0,b,N8,he⟩:=he;have hT:fC (.J0 e) "enumerate":=⟨_,he,O⟩;refine S0 (JI (lF (W2:=EA "__next__") hT CR
   (TC CR hT fi (sO0 hh he Qg (by simp) λ h' x hk WO=>?_) (ph _))))
  obtain⟨o,ho,hc⟩:=WO;refine S0 (AU (T:="StopIteration") (b:=I0) ⟨o,ho,hc⟩ eZ ?_);refine E2 (hQ h' λ c o hc e=>?_);simp only[uD,vD,eE,tN]at hc;exact hk c o hc.2 e
def EJ(P:C0->K0->K0->Prop)(h0:O1)(X:P0 H1)(N3:M4 K0)(i:C0)(h:O1):Prop:=
 g00=i/\∀j v,N3[j]?=E0 v->∃T x y,v=.J0 T/\T∉X/\C3 T=E0 (F8 [x,y] 0)/\P j x y/\Sn T=H0
theorem EJ.at{P:C0->K0->K0->Prop}{h0:O1}{X:P0 H1}{N3:M4 K0}{i:C0}{h h':O1}(p:EJ P h0 X N3 i h)(hk:∀b o,b∉X->C3 b=E0 o->D3 b=E0 o):EJ P h0 X N3 i h':=
 ⟨p.1,λ j v hv=>by obtain⟨T,x,y,e,hT,g,q⟩:=p.2 j v hv;exact⟨T,x,y,e,hT,hk _ _ hT g,q⟩⟩
theorem EJ.y6{P:C0->K0->K0->Prop}{h0:O1}{X:P0 H1}{N3:M4 K0}{i:C0}{h:O1}{T:H1}{x y:K0}(p:EJ P h0 X N3 i h)(hT:T∉X)(g:C3 T=E0 (F8 [x,y] 0))(q:P i x y)(q0:Sn T=H0):EJ P h0 X (N3.y6 (.J0 T)) (i+1) h:=by
 refine⟨by rw[M4.C80,p.1],λ j v hj=>?_⟩;rw[M4.getElem?_push]at hj
 split at hj
 ·rename_i e;rw[p.1]at e;obtain O:=I3 hj;rw[e];exact⟨T,x,y,O,hT,g,q,q0⟩
 ·exact p.2 j v hj
section
variable{I:Addr}{W F:List Addr}{n:Nat}{P:Nat->Value->Value->Prop}{St:Nat->Heap->Prop}{R:Result->Shared->Prop}
theorem uO0(h0:O1)(X:Wk L3 w sB I W F n P St)(hn:n<=aA)(S:H1)(aJ:S∉F)(PS:K0):
  ∀(k i:C0)(s:D1)(N3:M4 K0)(c:C0),n-i=k->i<=n->St i W0->F3 S=E0 {O2:=.U0 "list",H2:=H0,M3:=.W5 N3 c,LC:=#[]}->EJ P h0 (S::W) N3 i W0->(∀b o,b∉S::W->Sn b=E0 o->F3 b=E0 o)->
  (∀h' tk gK c',(∀b o,b∉S::W->F3 b=E0 o->D3 b=E0 o)->D3 S=E0 {O2:=.U0 "list",H2:=H0,M3:=.W5 gK c',LC:=#[]}->EJ P h0 (S::W) gK n h'->R (.ok (.U1 PS)) {s with B3:=h',B4:=tk})->
  JC (U4 L3 w) A (.Z4 "list.extend.loop" ⟨[.J0 S,.J0 I,PS],[]⟩) R s:=by
 have yd:S∉W:=λ h=>aJ (Jo _ h);intro k;induction k with
 |K9=>
  intro i s N3 c hk hi QC hS CG zd hR;have Oa:i=n:=by omega
  subst Oa;refine QW rT0 ?_;show V0 _ sB (vF (.J0 I)>>=_) _ _ s;refine S0 (X.ND s _ _ QC λ h' hk=>?_);have PM:∀b o,b∉S::W->F3 b=E0 o->D3 b=E0 o:=λ b o hb e=>hk b o (λ q=>hb (AC _ q)) e;exact E2 (hR h' X4 N3 c PM (hk _ _ yd hS) (CG.at PM))
 |J9 k ih=>
  intro i s N3 c hk hi QC hS CG zd hR;have ZF:i<n:=by exact ω33 ‹_›
  refine QW rT0 ?_;show V0 _ sB (vF (.J0 I)>>=_) _ _ s;refine S0 (X.EM i s _ _ ZF QC λ h' tk T x y hT C9 hP tw qI=>?_);have lK:=qI S _ yd hS;have hTS:T≠S:=λ q=>by rw[q,hS]at C9;contradiction
  have hTW:T∉S::W:=λ q=>by
   rcases kA q with q|q
   ·exact hTS q
   ·obtain⟨o,e⟩:=X.l9 _ _ QC T (Jo _ q);rw[C9]at e;contradiction
  show V0 _ sB (Fm S (·.y6 (.J0 T))>>=_) _ _ _;refine S0 ?_;have GF:∀b o,b≠S->D3 b=E0 o->(h'.JF S (LK (·.y6 (.J0 T)))).X5 b=E0 o:=λ b o hb e=>(hM _ _ (H9 hb)).U2 e;have PM:∀b o,b∉S::W->F3 b=E0 o->D3 b=E0 o:=λ b o hb e=>qI b o (λ q=>hb (AC _ q)) e;refine Ok lK O (E2 ⟨ac sT0 _,ih (i+1) {s with B3:=_,B4:=tk} (N3.y6 (.J0 T)) _ (by omega) ZF (Yo _ h' _ S aJ tw GF λ o e=>⟨_,GH _ lK O⟩)
   (GH _ lK O) ?_ (λ b o hb e=>GF b o (λ q=>hb (by rw[q];exact .J8 _)) (PM b o hb (zd b o hb e))) λ XJ PD gK c' vO0 wO0 xO0=>?_⟩) (by rw[CG.1];exact X6 ‹_› ‹_›) (by show(N3.y6 (.J0 T)).L9<=aA+1;rw[M4.C80,CG.1];exact ω112 ‹_› ‹_›)
  ·exact((CG.at PM).at λ b o hb e=>GF b o (λ q=>hb (by rw[q];exact .J8 _)) e).y6 hTW (GF _ _ hTS hT) hP (by
    cases e:Sn T with
    |H0=>rfl
    |E0 o=>rw[zd _ _ hTW e]at C9;contradiction)
  ·exact hR XJ PD gK c' (λ b o hb e=>vO0 b o hb (GF b o (λ q=>hb (by rw[q];exact .J8 _)) (PM b o hb e))) wO0 xO0
end
end
end
end
section
section
set_option backward.match.sparseCases true in
def EH(T:V6)(n:u0):I1:=match iV0 T n with|E0 H0=>I0|_=>R0
theorem oP{T:V6}{n:u0}(h:EH T n=I0):OA (.U0 T) n=L4 H0:=am_miss_of_fast h
theorem DW:EH "zip" "__len__"=I0/\EH "zip" "__length_hint__"=I0/\EH "enumerate" "__len__"=I0/\EH "enumerate" "__length_hint__"=I0/\EH "zip" "__getattr__"=I0/\EH "zip" "keys"=I0/\EH "list" "keys"=I0:=by
 have h:(EH "zip" "__len__"&&(EH "zip" "__length_hint__"&&(EH "enumerate" "__len__"&&(EH "enumerate" "__length_hint__"&&(EH "zip" "__getattr__"&&(EH "zip" "keys"&&EH "list" "keys"))))))=I0:=by kernel_rfl
 simpa -w4 only[N5]using h
theorem yO0:OA (.U0 "zip") "__len__"=L4 H0:=oP DW.1
theorem zO0:OA (.U0 "zip") "__length_hint__"=L4 H0:=oP DW.2.1
theorem AP0:OA (.U0 "enumerate") "__len__"=L4 H0:=oP DW.2.2.1
theorem BP0:OA (.U0 "enumerate") "__length_hint__"=L4 H0:=oP DW.2.2.2.1
section
variable{prog:Program}{w:World}{A:Around}{E:Value->Shared->Prop}{s:Shared}
structure GZ(L3:tL)(w:N4)(T:V6):Prop where
 nl:(aL T==aL "list")=R0
 nt:(aL T==aL "tuple")=R0
 uw:OA (.U0 T) "__len__"=L4 H0
 xw:OA (.U0 T) "__length_hint__"=L4 H0
 lI:∀{A:C6}{E:K0->D1->Prop}{s:D1}{r:H1}{Q:K0->D1->Prop},fC (.J0 r) T->Q (.J0 r) s->V0 (U4 L3 w) A (L_ (.J0 r)) Q E s
theorem gA0:GZ L3 w "zip" where
 nl:=by decide
 nt:=by decide
 uw:=yO0
 xw:=zO0
 lI:=λ{A E s r Q} hT h=>At hT tT0 (TC tT0 hT F.entry_zip_iter (by
  show V0 _ _ (U1 (.J0 r)) _ _ _;exact E2 ⟨_,O,"zip",_,hT,RL.e9,h⟩) (F.args_zip_iter_1 _))
theorem hW0:GZ L3 w "enumerate" where
 nl:=by decide
 nt:=by decide
 uw:=AP0
 xw:=BP0
 lI:=λ{A E s r Q} hT h=>At hT la (TC la hT V80 (by
  show V0 _ _ (U1 (.J0 r)) _ _ _;exact E2 ⟨_,O,"enumerate",_,hT,M80,h⟩) (U80 _))
variable{T:String}{I:Addr}{W Fp:List Addr}{n:Nat}{P:Nat->Value->Value->Prop}{St:Nat->Heap->Prop}{R:Result->Shared->Prop}
theorem O60(h0:O1)(S:H1)(zd:∀b o,b≠S->Sn b=E0 o->F3 b=E0 o)(WT:GZ L3 w T)(X:Wk L3 w sB I W Fp n P St)(hn:n<=aA)(aJ:S∉Fp)(rX:S≠I)(hT:fC (.J0 I) T)(QC:St 0 W0)(PS:K0){c₀:C0}(hS:F3 S=E0 {O2:=.U0 "list",M3:=.W5 #[] c₀})
  (hR:∀h' tk gK c',(∀b o,b∉S::W->F3 b=E0 o->D3 b=E0 o)->D3 S=E0 {O2:=.U0 "list",H2:=H0,M3:=.W5 gK c',LC:=#[]}->EJ P h0 (S::W) gK n h'->R (.ok (.U1 PS)) {s with B3:=h',B4:=tk}):
  V0 (U4 L3 w) sB (eh (.J0 S) (.J0 I) PS)
   (λ O6 s'=>match O6 with|.ND f=>R (.ok f) s'|.eK c'=>c'.quiet=I0/\JC (U4 L3 w) A c' R s') (λ e s'=>R (.LD e) s') s:=by
 unfold eh;refine S0 (OR hT ?_);have h1:da.SV0 (.J0 S) (.J0 I)=R0:=by simp[da.SV0,rX]
 simp -w4 only[h1,WT.nl,WT.nt,I1.eE,Ps,D_];refine S0 (WT.lI hT ?_);refine S0 (A8 ?_);refine S0 (Kk hT WT.uw ?_);show V0 _ sB (mx (x6 I) (EA "__length_hint__")>>=_) _ _ _;refine S0 (Kk hT WT.xw ?_);refine E2 ?_;show V0 _ sB (rule "list.extend.makes-room">>=λ _=>da.listTouch (.J0 S)>>=λ _=>
  eK (.Z4 "list.extend.loop" ⟨[.J0 S,.J0 I,PS],[]⟩)) _ _ _
 refine S0 (RP ?_);refine S0 ?_;show V0 _ sB (Fm S (·.y6 .H0)>>=λ _=>Fm S (·.jK)) _ _ _;refine S0 (Ok hS O ?_);have Ae:=GH (LK (·.y6 IF)) hS O;refine Ok (hz:=by seq_fits) Ae O ?_;have P60:=GH (LK (·.jK)) Ae O;have GF:∀b o,b≠S->F3 b=E0 o->((UL S (LK (·.y6 IF))).JF S (LK (·.jK))).X5 b=E0 o:=
  λ b o hb e=>(hM _ _ (H9 hb)).U2 ((hM _ _ (H9 hb)).U2 e)
 refine E2 ⟨ac sT0 _,uO0 h0 X hn _ aJ _ n 0 {s with B3:=_} _ _ O (VN _) (Yo 0 _ _ S aJ QC GF λ o e=>⟨_,P60⟩) P60 ⟨O,λ j v h=>by simp -w4 at h⟩ (λ b o hb e=>GF b o (λ q=>hb (by rw[q];exact .J8 _)) (zd b o (λ q=>hb (by rw[q];exact .J8 _)) e)) λ h' tk gK c' hk lK CG=>?_⟩;exact hR h' tk gK c' (λ b o hb e=>hk b o hb (GF b o (λ q=>hb (by rw[q];exact .J8 _)) e)) lK CG
theorem ML{h:O1}{b:H1}{o:D4}(e:C3 b=E0 o):o8≠b:=aW (r9 e)
theorem CP0{Q:K0->D1->Prop}(WT:GZ L3 w T)(hh:F9=H0)(X:∀A:C6,F9=H0->Wk L3 w A I W Fp n P St)(hn:n<=aA)(hT:fC (.J0 I) T)(QC:St 0 W0)
  (hQ:∀h' tk N3 c,(∀b o,b∉W->F3 b=E0 o->D3 b=E0 o)->D3 P2=E0 {O2:=.U0 "list",H2:=H0,M3:=.W5 N3 c,LC:=#[]}->EJ P W0 [] N3 n h'->Q (.J0 P2) {s with B3:=h',B4:=tk}):
  V0 (U4 L3 w) A (K2 (.U0 "list") [.J0 I]) Q E s:=by
 refine H90 (Q₁:=λ QF N6=>QF=.J0 P2/\N6={s with B3:=G8 {O2:=.U0 "list",M3:=.W5 #[]}}) c8.called_list (c8.typeCall_list_1 _) c8.entry_list_init
  (code_list_new _ ⟨O,O⟩) λ QF N6 n5=>?_
 obtain⟨O,O⟩:=n5;have hS:(G8 {O2:=.U0 "list",M3:=.W5 #[]}).X5 P2=E0 {O2:=.U0 "list",M3:=.W5 #[]}:=DA _ O;have aJ:P2∉Fp:=λ q=>by obtain⟨o,e⟩:=(X A hh).l9 _ _ QC _ q;exact ML e O
 refine⟨⟨_,hS,O⟩,c8.args_list_init_2 _ _,?_⟩;show V0 _ _ (do let N8 <-da.listItems (.J0 P2);da.listUpdate (.J0 P2) (λ _=>#[]);letGo N8.bE.YL;eh (.J0 P2) (.J0 I) .H0) _ _ _;refine S0 ?_;refine S0 (DK hS O (E2 ?_));show V0 _ _ (Fm P2 (λ _=>#[])>>=λ _=>letGo (#[]:M4 K0).bE.YL>>=λ _=>eh (.J0 P2) (.J0 I) .H0) _ _ _;refine S0 (Ok hS O ?_);have Ae:=GH (LK (λ _=>(#[]:M4 K0))) hS O;have GF:∀b o,b≠P2->F3 b=E0 o->((G8 {O2:=.U0 "list",M3:=.W5 #[]}).JF P2 (LK (λ _=>(#[]:M4 K0)))).X5 b=E0 o:=
  λ b o hb e=>(hM _ _ (H9 hb)).U2 (T6 _ e)
 refine S0 (ll ?_);have rX:P2≠I:=by obtain⟨o,e,_⟩:=hT;exact ML e
 refine O60 (A:=sB) (s:={s with B3:=_}) W0 _ GF WT (X _ hh) hn aJ rX (by obtain⟨o,e,c⟩:=hT;exact⟨o,GF _ _ rX.Z3 e,c⟩) ((X A hh).HD 0 _ _ _ aJ QC GF λ o e=>⟨_,Ae⟩) .H0 Ae λ h' tk gK c' hk lK CG=>?_;exact⟨O,hQ h' tk gK c' (λ b o hb e=>hk b o (λ q=>by
  rcases kA q with q|q
  ·exact ML e ZK
  ·exact hb q) (GF b o (λ q=>ML e ZK) e)) lK ⟨CG.1,λ j v hv=>by obtain⟨T,x,y,e,_,g,q⟩:=CG.2 j v hv;exact⟨T,x,y,e,nofun,g,q⟩⟩⟩
set_option backward.match.sparseCases true in
theorem DP0{Q:P0 K0->D1->Prop}(WT:GZ L3 w T)(X:Wk L3 w sB I W Fp n P St)(hn:n<=aA)(hT:fC (.J0 I) T)(QC:St 0 W0)
  (hQ:∀h' tk N3,(∀b o,b∉W->F3 b=E0 o->D3 b=E0 o)->EJ P W0 [] N3 n h'->Q KU {s with B3:=h',B4:=tk}):V0 (U4 L3 w) A (collect (.J0 I)) Q E s:=by
 have aJ:P2∉Fp:=λ q=>by obtain⟨o,e⟩:=X.l9 _ _ QC _ q;exact ML e O
 have rX:P2≠I:=by obtain⟨o,e,_⟩:=hT;exact ML e
 have hS:(G8 {O2:=.U0 "list",M3:=.W5 ([]:P0 K0).P8}).X5 P2=E0 {O2:=.U0 "list",M3:=.W5 #[] 0}:=DA _ O;have GF:∀b o,b≠P2->F3 b=E0 o->(G8 {O2:=.U0 "list",M3:=.W5 ([]:P0 K0).P8}).X5 b=E0 o:=λ b o _ e=>T6 _ e;refine S0 (HU0 (QW c8.entry_proto_collect ?_));show V0 _ sB (dR []>>=λ l=>eK (.Z4 "list.__iadd__" ⟨[l,.J0 I],[]⟩)) _ _ s;refine S0 (HH ?_);refine E2 ⟨ac c8.plain_list_iadd _,QW c8.entry_list_iadd ?_⟩;show V0 _ sB (eh (.J0 P2) (.J0 I) (.J0 P2)) _ _ _;refine V3 (O60 W0 P2 (A:=A) (s:={s with B3:=_}) GF (R:=λ r s'=>r=.ok (.U1 (.J0 P2))/\∃h' tk N3 c,s'={s with B3:=h',B4:=tk}/\(∀b o,b∉P2::W->F3 b=E0 o->D3 b=E0 o)/\D3 P2=E0 {O2:=.U0 "list",H2:=H0,M3:=.W5 N3 c,LC:=#[]}/\EJ P W0 (P2::W) N3 n h')
  WT X hn aJ rX (by obtain⟨o,e,c⟩:=hT;exact⟨o,GF _ _ rX.Z3 e,c⟩) (Yo 0 _ _ _ aJ QC GF λ o e=>⟨_,hS⟩) _ hS λ h' tk gK c' hk lK CG=>⟨O,h',tk,gK,c',O,λ b o hb e=>hk b o hb (GF b o (λ q=>hb (by rw[q];exact .J8 _)) e),lK,CG⟩) (λ O6 s' h=>?_) λ e s' h=>U3 h.1 (by simp -w4)
 have fin':∀{h':O1}{tk:P6}{N3:M4 K0}{c:C0},(∀b o,b∉P2::W->F3 b=E0 o->D3 b=E0 o)->D3 P2=E0 {O2:=.U0 "list",H2:=H0,M3:=.W5 N3 c,LC:=#[]}->EJ P W0 (P2::W) N3 n h'->
   V0 (U4 L3 w) A (match x6 P2 with
   |x6 a=>do
    match(<-load a).M3 with
     |Data.W5 xs _=>L4 SP
     |_=>d90 "internal:collect"
   |_=>d90 "internal:collect") Q E {s with B3:=h',B4:=tk}:=λ{h' tk N3 c} hk lK CG=>by
  show V0 _ A (load P2>>=_) _ _ _;refine S0 (yl lK (E2 (hQ h' tk N3 (λ b o hb e=>hk b o (λ q=>?_) e) ⟨CG.1,λ j v hv=>by obtain⟨T,x,y,e,_,g,q⟩:=CG.2 j v hv;exact⟨T,x,y,e,nofun,g,q⟩⟩)));rcases kA q with q|q
  ·exact ML e ZK
  ·exact hb q
 cases O6 with
 |ND f=>
  obtain⟨e,h',tk,N3,c,O,h1,h2,h3⟩:=h;cases e;exact fin' h1 h2 h3
 |eK c'=>
  exact⟨h.1,codeAny_mono h.2 λ r O7 hr=>by
   obtain⟨e,h',tk,N3,c,O,h1,h2,h3⟩:=hr;subst e;exact fin' h1 h2 h3⟩
theorem EP0{Q:K0->D1->Prop}(WT:GZ L3 w T)(hTt:T="enumerate")(hh:F9=H0)(X:∀A:C6,F9=H0->Wk L3 w A I W Fp n P St)(hn:n<=aA)(hT:fC (.J0 I) T)(QC:St 0 W0)
  (hQ:∀h' tk N3,(∀b o,b∉W->F3 b=E0 o->D3 b=E0 o)->EJ P W0 [] N3 n h'->Q (.J0 NB) {s with B3:=gf {O2:=.U0 "tuple",M3:=.W5 N3},B4:=tk}):
  V0 (U4 L3 w) A (K2 (.U0 "tuple") [.J0 I]) Q E s:=by
 refine H90 (Q₁:=λ QF N6=>N6.XV QF "tuple"/\Q QF N6) L90 (c8.typeCall_tuple_1 _) c8.entry_object_init
  (bZ ?_) λ QF N6 n5=>⟨n5.1,c8.IT0 QF _,object_init_meets L90.E_.e9 L90.made (by decide) L3 w sB _ N6 ⟨n5.1,O,n5.2⟩⟩
 show V0 _ oW (do KR "tuple.__new__" ⟨[.U0 "tuple",.J0 I],[]⟩;eK (.Z4 "tuple.__new__" ⟨[.U0 "tuple",.J0 I],[]⟩)) _ _ s;refine S0 (WN (c8.newCall_tuple_1 _) (E2 ⟨ac fU0 _,QW c8.entry_tuple_new ?_⟩));rw[C6.under_plainId fU0 _];have hsub:=sub_tuple_self;have EX0:=init_tuple_lookup;have hmh:=madeHere_tuple;subst hTt
 wp_walk using OR hT,DP0 WT (X oW.in1 hh) hn hT QC
 intro h' tk N3 hk CG;show V0 _ _ (TZ KU.P8>>=λ v=>U1 v) _ _ _;refine S0 (HH ?_ (by show KU.GU<=aA;simp -w4 only[mr];rw[CG.1];exact hn));refine E2 ⟨⟨_,DA _ O,O⟩,?_⟩;simp -w4 only[mr];exact hQ h' tk N3 hk CG
end
end
end
section
section
theorem Q60:plainId "dict.update.loop"=I0:=by decide +F7
theorem R60:MA0 table "dict.update.loop"=E0 MA.«dict.update.loop»:=eT0 (by kernel_rfl)
theorem FP0:MA0 table "zip.__getattribute__"=E0 MA.«object.__getattribute__»:=
 entryFor_alias (id':="object.__getattribute__") (by rw[VT0];kernel_rfl) (by decide +F7) (by decide +F7) (by rw[VT0];kernel_rfl)
theorem GP0:OA (.U0 "zip") "__getattr__"=L4 H0:=(oP DW.2.2.2.2.1)
theorem HP0:OA (.U0 "zip") "keys"=L4 H0:=(oP DW.2.2.2.2.2.1)
theorem IP0:OA (.U0 "list") "keys"=L4 H0:=(oP DW.2.2.2.2.2.2)
theorem JP0(a:H1)(vs:M4 K0)(u:P6):
  T_ (MA.«object.__getattribute__» ⟨[.J0 a,.Z0 "keys" u],[]⟩) (λ A R s=>F3 a=E0 {O2:=.U0 "zip",H2:=H0,M3:=.T5 vs,LC:=#[]}/\raisesAttr (.J0 a) "keys" A R s):=
 T_.Bn λ L3 w A R s hs=>by
  obtain⟨hp,g,d,tk,os⟩:=s;obtain⟨hx,hs⟩:=hs;have hT:(⟨hp,g,d,tk,os⟩:D1).XV (.J0 a) "zip":=⟨_,hx,O⟩;have hmiss:=HP0;unfold MA.«object.__getattribute__»
  repeat (any_goals (first|assumption|wp_step))
  exact wpAny_raiseAttrError hs.1 hs.2 (attrMsg_fits (by decide +F7) (by decide))
section
variable{prog:Program}{w:World}{A:Around}{E:Value->Shared->Prop}{s:Shared}
def nk(L3:tL)(w:N4)(A:C6)(s:D1)(a:H1):Prop:=∀{Q:Q1 K0->D1->Prop}{E:K0->D1->Prop},(∀h' tk,(∀b o,F3 b=E0 o->D3 b=E0 o)->Q H0 {s with B3:=h',B4:=tk})->V0 (U4 L3 w) A (getAttr? (.J0 a) "keys") Q E s
theorem S60{a:H1}{T id:V6}(hT:∀tk,({s with B4:=tk}:D1).XV (.J0 a) T)(Sl:Slot T "__getattribute__" id)(hg:OA (.U0 T) "__getattr__"=L4 H0)
  (hc:∀{u:P6}{Q:K0->D1->Prop}{E:K0->D1->Prop},(∀h' tk e,O1.NewAttrErr W0 h' e (.J0 a) "keys"->E (.J0 e) {s with B3:=h',B4:=tk})->V0 (U4 L3 w) A (K2 (.Z4 id) [.J0 a,.Z0 "keys" u]) Q E {s with B4:=X4+1}):nk L3 w A s a:=λ{Q E} h=>by
 refine S0 (kU0 (S0 (JI (A8 (S0 (OR (hT _) (S0 (WN Sl.e9 ?_))))))));show V0 _ _ (getAttrByItsOwn (.J0 a) (.Z0 "keys" X4) (.U0 T) (.Z4 id) R0 R0) _ _ _;refine S0 (WN (show(if nx (.U0 T)then OA (.U0 T) "__getattr__" else L4 H0)=L4 H0 from O) ?_);refine S0 (JI (A8 ?_));show V0 _ _ (PV0 (.Z4 id) (.J0 a)>>=_) _ _ _;refine S0 (WN (Sl.S6 _) ?_);refine hc λ h' tk e hx=>?_;obtain⟨t',u',he⟩:=hx.l9;have hI:({s with B3:=h',B4:=tk}:D1).XV (.J0 e) "AttributeError":=⟨_,he,O⟩;show V0 _ _ (getattributeRaised _ _ _ _ _ _ _) _ _ _;refine S0 (AU (T:="AttributeError") (b:=I0) hI MT0 ?_);refine S0 (WN (show(if nx (.U0 T)then L4 H0 else OA (.U0 T) "__getattr__")=L4 H0 from hg) ?_);refine tZ ?_;refine S0 (AU (T:="AttributeError") (b:=I0) hI MT0 ?_);exact E2 (h _ _ hx.zW)
theorem KP0{a:H1}{vs:M4 K0}(hx:F3 a=E0 {O2:=.U0 "zip",H2:=H0,M3:=.T5 vs,LC:=#[]})(hA:F9=H0):nk L3 w A s a:=
 S60 (T:="zip") (λ _=>⟨_,hx,O⟩) DT0 GP0 λ h=>QR DT0 ⟨_,hx,O⟩ FP0 (c8.args_zip_getattribute_2 _ _) (JP0 a vs _) ⟨hx,hA,h⟩
theorem LP0{a:H1}{xs:M4 K0}{k:C0}(hx:F3 a=E0 {O2:=.U0 "list",H2:=H0,M3:=.W5 xs k,LC:=#[]})(hA:F9=H0):nk L3 w A s a:=
 S60 (T:="list") (λ _=>⟨_,hx,O⟩) yS0 am_list_getattr_none λ h=>QR yS0 ⟨_,hx,O⟩ am_entry_list_getattribute (c8.args_list_getattribute_2 _ _) (meets_getattribute_miss_list a xs k #[] "keys" _ IP0 (by decide) (by decide)) ⟨hx,hA,h⟩
structure yw(L3:tL)(w:N4)(A:C6)(I:H1)(W F:P0 H1)(n:C0)(P:C0->K0->K0->Prop)(St:C0->O1->Prop):Prop where
 w0:∀b∈W,b∈F
 HD:∀k h h' S,S∉F->St k h->(∀b o,b≠S->C3 b=E0 o->D3 b=E0 o)->(∀o,C3 S=E0 o->∃o',D3 S=E0 o')->St k h'
 EM:∀k(s:D1)(Q:Q1 K0->D1->Prop)(E:K0->D1->Prop),k<n->St k W0->
  (∀h' tk T x y c,D3 T=E0 (F8 [x,y] c)->P k x y->St (k+1) h'->(∀b o,b∉W->F3 b=E0 o->D3 b=E0 o)->Q (E0 (.J0 T)) {s with B3:=h',B4:=tk})->V0 (U4 L3 w) A (vF (.J0 I)) Q E s
 ND:∀(s:D1)(Q:Q1 K0->D1->Prop)(E:K0->D1->Prop),St n W0->(∀h',(∀b o,b∉W->F3 b=E0 o->D3 b=E0 o)->Q H0 {s with B3:=h'})->V0 (U4 L3 w) A (vF (.J0 I)) Q E s
theorem Wk.d{I:H1}{W Fp:P0 H1}{n:C0}{P:C0->K0->K0->Prop}{St:C0->O1->Prop}(X:Wk L3 w A I W Fp n P St):yw L3 w A I W Fp n P St:=
 ⟨Jo,Yo,λ k s Q E hk st h=>X.EM k s Q E hk st λ h' tk T x y e _ p SA hk=>h h' tk T x y 0 e p SA hk,X.ND⟩
structure LSt(h:O1)(it S4:H1)(ts:P0 (H1×K0×K0×C0))(k:C0):Prop where
 wi:B7 h it S4 k (XH λ t=>x6 t.1).P8
 ps:∀t∈ts,C3 t.1=E0 (F8 [t.2.1,t.2.2.1] t.2.2.2)
 ne:∀t∈ts,t.1≠it
theorem MP0(hh:F9=H0){it S4:H1}{ts:P0 (H1×K0×K0×C0)}:
  yw L3 w A it [it] (it::S4::XH (·.1)) cN (λ k x y=>∃t,ts[k]?=E0 t/\x=t.2.1/\y=t.2.2.1) (λ k h=>LSt h it S4 ts k)where
 w0:=λ b hb=>by simp only[List.mem_singleton]at hb;rw[hb];exact .J8 _
 HD:=λ k h h' S hS x hk hT=>by
  simp only[uD,tN,ca]at hS;exact⟨x.wi.at (λ o e=>hk _ _ (H9 hS.1) e) λ o e=>hk _ _ (H9 hS.2.1) e,λ t ht=>hk _ _ (λ q=>hS.2.2 ⟨t,ht,q⟩) (x.ps t ht),zR⟩
 EM:=λ k s Q E hk x hQ=>by
  have ht:ts[k]∈ts:=P0.getElem_mem hk;refine Fv (x:=.J0 ts[k].1) x.wi (by simp[hk]) λ h' hs yJ=>?_;refine hQ h' X4 ts[k].1 _ _ _ (lL _ _ (zR _ ht) (x.ps _ ht)) ⟨_,P0.YS0 hk,O,O⟩ ⟨hs,λ t ht=>lL _ _ (zR _ ht) (x.ps _ ht),zR⟩ λ b o hb e=>lL b o (λ q=>hb (by rw[q];exact .J8 _)) e
 ND:=λ s Q E x hQ=>Gv hh x.wi (by simp) λ h' hs _=>hQ h' λ b o hb e=>hs b o (λ q=>hb (by rw[q];exact .J8 _)) e
section
variable{I:Addr}{W Fp:List Addr}{n:Nat}{P:Nat->Value->Value->Prop}{St:Nat->Heap->Prop}{R:Result->Shared->Prop}
def qk(P:C0->K0->K0->Prop)(l:P0 (u0×K0))(i:C0):Prop:=KJ=i/\∀j κ v,l[j]?=E0 (κ,v)->∃t,P j (.Z0 κ t) v
theorem T60(X:yw L3 w sB I W Fp n P St)(hP:∀k x y,P k x y->∃κ t,x=.Z0 κ t)(hn:n<=aA)(d:H1)(aJ:d∉Fp)(PS:K0):
  ∀(k i:C0)(s:D1)(l:P0 (u0×K0)),n-i=k->i<=n->St i W0->W0.WR (GD L3 w) d (aK [] l)->qk P l i->
  (∀h' tk l',(∀b o,b∉d::W->F3 b=E0 o->D3 b=E0 o)->uf (GD L3 w) d (aK [] l')->qk P l' n->R (.ok (.U1 PS)) {s with B3:=h',B4:=tk})->
  JC (U4 L3 w) A (.Z4 "dict.update.loop" ⟨[.J0 d,.J0 I,j5 i,PS],[]⟩) R s:=by
 have yd:d∉W:=λ h=>aJ (Jo _ h);intro k;induction k with
 |K9=>
  intro i s l hk hi QC hS hl hR;have Oa:i=n:=by omega
  subst Oa;refine QW R60 ?_;show V0 _ sB (vF (.J0 I)>>=_) _ _ s;refine S0 (X.ND s _ _ QC λ h' hk=>?_);refine S0 (E2 (E2 (hR h' X4 l (λ b o hb e=>hk b o (λ q=>hb (AC _ q)) e) (hS.at λ o e=>hk _ _ yd e) hl)))
 |J9 k ih=>
  intro i s l hk hi QC hS hl hR;have ZF:i<n:=by exact ω33 ‹_›
  refine QW R60 ?_;show V0 _ sB (vF (.J0 I)>>=_) _ _ s;refine S0 (X.EM i s _ _ ZF QC λ h' tk T x y c hT hp tw qI=>?_);obtain⟨κ,t,O⟩:=hP _ _ _ hp;have hT':({s with B3:=h',B4:=tk}:D1).XV (.J0 T) "tuple":=⟨_,hT,O⟩;show V0 _ _ (UH [.J0 T] _>>=_) _ _ _;refine S0 (A8 ?_);refine S0 (wpAny_tryCatch ?_);refine S0 (OR hT' ?_);refine S0 (DK hT O (E2 ?_));show V0 _ _ (UH [.Z0 κ t,y] (dictSet d (.Z0 κ t) y)) _ _ _;have lK:=hS.at λ o e=>qI _ _ yd e;have hml:=merged_length_le [] l;rw[BU,hl.1]at hml;refine A8 (wpAny_dictSet_pairs (Z7:=by exact ω67 ‹_› ‹_› ‹_›) (pC:=GD L3 w) (k:=κ) (by first|rfl|exact K0.isStrOf_self|(show Hc κ (.Z0 κ t)=I0;simp[Hc])) lK λ XJ U60 yJ=>?_);refine E2 ⟨ac Q60 _,?_⟩;have PM:∀b o,b∉d::W->F3 b=E0 o->N_ b=E0 o:=λ b o hb e=>lL b o (λ q=>hb (by rw[q];exact .J8 _)) (qI b o (λ q=>hb (AC _ q)) e);have:=ih (i+1) {s with B3:=XJ,B4:=tk+1} (l++[(κ,y)]) (by exact ω12 ‹_›) ZF (Yo _ h' _ d aJ tw (λ b o hb e=>lL b o hb e) λ o e=>by obtain⟨o,_,_,e,_⟩:=U60;exact⟨o,e⟩)
   (by rw[show aK [] (l++[(κ,y)])=QJ (aK [] l) κ y from by simp[aK,P0.foldl_append]];exact U60)
   ⟨by simp[hl.1],λ j κ' v hj=>?_⟩ λ h3 Mw l3 bQ UT hl3=>hR h3 Mw l3 (λ b o hb e=>bQ b o hb (PM b o hb e)) UT hl3
  ·exact J2
  ·rcases C0.lt_or_ge j KJ with q|q
   ·rw[P0.getElem?_append_left q]at hj;exact hl.2 j κ' v hj
   ·rw[P0.getElem?_append_right q]at hj;have:j-KJ=0:=by
     rcases C0.eq_zero_or_pos (j-KJ)with z|z
     ·exact z
     ·rw[P0.getElem?_eq_none (by simp;exact jT0 ‹_›)]at hj;contradiction
    rw[J2]at hj;cases hj;have:j=i:=by rw[<-hl.1];omega
    subst J2;exact⟨t,hp⟩
end
end
end
end
section
section
section
variable{prog:Program}{w:World}{A:Around}{E:Value->Shared->Prop}{s:Shared}
def DI(h h':O1):Prop:=∀b o,C3 b=E0 o->D3 b=E0 o
theorem V60{a:H1}{W:P0 H1}{T:V6}{n:C0}{P:C0->K0->K0->Prop}{Q:K0->D1->Prop}(hT:fC (.J0 a) T)(Z6:(aL T !=aL "dict")=I0)(hN:∀s',DI W0 U6->nk L3 w oW s' a)
  (hIt:∀(n5:O1)(W_:P6)(R:BM->D1->Prop)(E':K0->D1->Prop),DI W0 n5->n5.WR (GD L3 w) P2 []->
   (∀h' tk l,(∀b o,b∉W->F3 b=E0 o->D3 b=E0 o)->uf (GD L3 w) P2 (aK [] l)->qk P l n->R (.ok (.U1 .H0)) {s with B3:=h',B4:=tk})->
   V0 (U4 L3 w) oW (L_ (.J0 a)) (λ it s'=>JC (U4 L3 w) sB (.Z4 "dict.update.loop" ⟨[.J0 P2,it,j5 (0:C0),.H0],[]⟩) R s') E' {s with B3:=n5,B4:=W_})
  (hQ:∀h' tk l,(∀b o,b∉W->F3 b=E0 o->D3 b=E0 o)->uf (GD L3 w) P2 (aK [] l)->qk P l n->Q (.J0 P2) {s with B3:=h',B4:=tk}):
  V0 (U4 L3 w) A (K2 (.U0 "dict") [.J0 a]) Q E s:=by
 refine H90 (Q₁:=λ QF N6=>QF=.J0 P2/\N6={s with B3:=G8 {O2:=.U0 "dict",M3:=.H2 #[]}}) c8.kt_called_dict (c8.kt_typeCall_dict_1 _) c8.entry_dict_init (kt_code_dict_new _ ⟨O,O⟩) ?_;rintro QF N6 ⟨O,O⟩;have hnew:(G8 {O2:=.U0 "dict",M3:=.H2 #[]}).WR (GD L3 w) P2 []:=O1.WR.SB W0;have hg:DI W0 (G8 {O2:=.U0 "dict",M3:=.H2 #[]}):=λ b o e=>T6 _ e;refine⟨hnew.AD,c8.args_dict_init_2 _ _,?_⟩;unfold MA.«dict.__init__»;refine S0 ?_;refine S0 (wpAny_notOrdered_dict hnew.AD ?_);show V0 _ _ (L4 (P2,[x6 a])) _ _ _;refine E2 ?_;show V0 _ _ (MA.cn.updateFrom "dict.__init__" P2 (.J0 a) [] .H0) _ _ _;refine S0 (OR (by obtain⟨o,e,c⟩:=hT;exact⟨o,hg _ _ e,c⟩) ?_);rw[y3 Z6];refine S0 (hN {s with B3:=_} hg λ u7 tk₂ hg₂=>?_);show V0 _ _ (rule _>>=_) _ _ _;refine S0 (RP ?_);refine S0 (V3 (hIt u7 tk₂ (wants (λ r s9=>r=.H0/\Q (.J0 P2) s9) E) (λ e s'=>wants (λ r s9=>r=.H0/\Q (.J0 P2) s9) E (.LD e) s') (λ b o e=>hg₂ b o (hg b o e)) (hnew.at λ o e=>hg₂ _ _ e) λ h' tk l hk hd hl=>⟨O,hQ h' tk l hk hd hl⟩) (λ it s' h=>?_) λ _ _ h=>h);exact E2 ⟨ac Q60 _,h⟩
end
end
end
section
open PyProof.Rows
variable{B:Bs}{A:Around}{G G':Gh}{s s':Shared}{F:Addr->Prop}
def wk(G:Gh)(h:O1)(v x y:K0):Prop:=∃T,v=.J0 T/\T∉F5/\C3 T=E0 (F8 [x,y] 0)
theorem NP0{h:O1}{l:PV}{xs:P0 K0}(r:A4 G h l xs):∀{m:PV}{ys N3:P0 K0},A4 G h m ys->Lo=xB bC t00->
  (∀(j:C0)(v:K0),N3[j]?=E0 v->∃x y,wk G h v x y/\xs[j]?=E0 x/\ys[j]?=E0 y)->A4 G h (rK l m) N3:=by
 refine yG (C:=λ l xs=>∀{m:PV}{ys N3:P0 K0},A4 G h m ys->Lo=xB bC t00->(∀(j:C0)(v:K0),N3[j]?=E0 v->∃x y,wk G h v x y/\xs[j]?=E0 x/\ys[j]?=E0 y)->A4 G h (rK l m) N3) ?_ ?_ r
 ·intro m ys N3 _ hl _;have:N3=[]:=QQ (by simpa using hl);rw[J2];exact O
 ·intro a q v vs ra _ ih m ys N3 rm hl hp;cases m using Q3 with
  |B0=>
   symm;have rm:ys=[]:=rm;subst rm;have:N3=[]:=QQ (by simpa using hl);ext;rw[J2];exact O
  |A0 b q2=>
   obtain⟨u,us,O,rb,rq⟩:=rm;cases N3 using i5 with
   |B0=>simp at hl
   |A0 c N3=>
    symm;obtain⟨x,y,⟨T,O,hT,e⟩,hx,hy⟩:=hp 0 c O;obtain O:=I3 hx;obtain O:=I3 hy;ext;exact⟨_,_,O,fj e hT ra rb,ih rq (by simp at hl;omega) λ j v hj=>hp (j+1) v hj⟩
  |_=>exact eB0
theorem OP0{h:O1}{l:PV}{xs:P0 K0}(r:A4 G h l xs):∀{n:C0}{N3:P0 K0},Lo=bC->
  (∀(j:C0)(v:K0),N3[j]?=E0 v->∃x y,wk G h v x y/\(∃t,x=.j0 ((n+j:C0):B2) t)/\xs[j]?=E0 y)->A4 G h (HY l n) N3:=by
 refine yG (C:=λ l xs=>∀{n:C0}{N3:P0 K0},Lo=bC->(∀(j:C0)(v:K0),N3[j]?=E0 v->∃x y,wk G h v x y/\(∃t,x=.j0 ((n+j:C0):B2) t)/\xs[j]?=E0 y)->A4 G h (HY l n) N3) ?_ ?_ r
 ·intro n N3 hl _;have:N3=[]:=QQ hl;rw[J2];exact O
 ·intro a q v vs ra _ ih n N3 hl hp;cases N3 using i5 with
  |B0=>simp at hl
  |A0 c N3=>
   symm;obtain⟨x,y,⟨T,O,hT,e⟩,⟨t,O⟩,hy⟩:=hp 0 c O;obtain O:=I3 hy;ext;exact⟨_,_,O,fj (p:=.j0 (.O4 n)) e hT ⟨t,O⟩ ra,ih (by simpa using hl) λ j v hj=>by
    have:=hp (j+1) v hj
    rwa [show n+(j+1)=n.J9+j by exact(SZ _ _).Z3]at J2⟩
theorem PP0{h:O1}:∀{n a:C0}{N3:P0 K0},Lo=n->(∀(j:C0)(v:K0),N3[j]?=E0 v->∃t,v=.j0 ((a+j:C0):B2) t)->A4 G h (Nq n a) N3:=by
 intro n;induction n with
 |K9=>
  intro a N3 hl _;rw[QQ hl];exact O
 |J9 n ih=>
  intro a N3 hl hp;cases N3 using i5 with
  |B0=>contradiction
  |A0 c N3=>
  obtain⟨t,O⟩:=hp 0 c O;exact⟨_,_,O,⟨t,O⟩,ih (mZ hl) λ j v hj=>by
   have:=hp (j+1) v hj
   rwa [show a+(j+1)=a.J9+j by exact(SZ _ _).Z3]at J2⟩
theorem QP0{l:PV}{k:C0}{v:PV}(h:GY l=E0 (k,v)):l=.A0 (.Z0 k) (.A0 v .B0):=by
 unfold GY at h;cases h1:qH l with
 |H0=>rw[h1]at h;contradiction
 |E0 x=>
  rw[h1]at h;have h:(match US x.1 with
   |E0 k=>match qH x.2 with
    |E0 y=>bif YM y.2 then E0 (k,y.1)else A2
    |A2=>A2
   |A2=>A2)=E0 (k,v):=h
  cases h2:US x.1 with
  |H0=>rw[h2]at h;contradiction
  |E0 k'=>
   rw[h2]at h;have h:(match qH x.2 with
    |E0 y=>bif YM y.2 then E0 (k',y.1)else A2
    |A2=>A2)=E0 (k,v):=h
   cases h3:qH x.2 with
   |H0=>rw[h3]at h;contradiction
   |E0 y=>
    rw[h3]at h;have h:(bif YM y.2 then E0 (k',y.1)else H0)=E0 (k,v):=h;obtain⟨h4,h⟩:=UC h;obtain⟨O,O⟩:=uZ (I3 h);rw[MQ h1,Qh h2,MQ h3,HV h4]
theorem W60{a q d:PV}(h:RI (.A0 a q)=E0 d):∃k v d',a=.Q0 (.A0 (.Z0 k) (.A0 v .B0))/\RI q=E0 d'/\d=.kv k v d':=by
 have h:(match r_ a with
  |E0 l=>match GY l with
   |E0 x=>(RI q).Y4 (.kv x.1 x.2)
   |A2=>A2
  |A2=>A2)=E0 d:=h
 cases h1:r_ a with
 |H0=>rw[h1]at h;contradiction
 |E0 l=>
  rw[h1]at h;have h:(match GY l with
   |E0 x=>(RI q).Y4 (.kv x.1 x.2)
   |A2=>A2)=E0 d:=h
  cases h2:GY l with
  |H0=>rw[h2]at h;contradiction
  |E0 x=>
   rw[h2]at h;obtain⟨d',eA,O⟩:=DR h;exact⟨x.1,x.2,d',by rw[E20 h1,QP0 h2],eA,O⟩
theorem X60{a b q d:PV}(h:RI (.A0 (.Q0 (.A0 a (.A0 b .B0))) q)=E0 d):∃k d',a=.Z0 k/\RI q=E0 d'/\d=.kv k b d':=by
 obtain⟨k,v,d',e,h1,h2⟩:=W60 h;cases e;exact⟨k,d',O,h1,h2⟩
theorem RP0{h:O1}{l:PV}{xs:P0 K0}(r:A4 G h l xs):∀{m d:PV}{ys:P0 K0}{V2:P0 (u0×K0)},A4 G h m ys->RI (rK l m)=E0 d->KK=xB bC t00->
  (∀(j:C0)(κ:u0)(v:K0),V2[j]?=E0 (κ,v)->∃t,xs[j]?=E0 (.Z0 κ t)/\ys[j]?=E0 v)->U8 G h d V2:=by
 refine yG (C:=λ l xs=>∀{m d:PV}{ys:P0 K0}{V2:P0 (u0×K0)},A4 G h m ys->RI (rK l m)=E0 d->KK=xB bC t00->(∀(j:C0)(κ:u0)(v:K0),V2[j]?=E0 (κ,v)->∃t,xs[j]?=E0 (.Z0 κ t)/\ys[j]?=E0 v)->U8 G h d V2) ?_ ?_ r
 ·intro m d ys V2 _ hd hl _;obtain O:=I3 hd;have:V2=[]:=QQ (by simpa using hl);rw[J2];exact O
 ·intro a q v vs ra _ ih m d ys V2 rm hd hl hp;cases m using Q3 with
  |B0=>
   have rm:ys=[]:=rm;subst rm;obtain O:=I3 hd;have:V2=[]:=QQ (by simpa using hl);rw[J2];exact O
  |A0 b q2=>
   obtain⟨u,us,O,rb,rq⟩:=rm;change RI (.A0 (.Q0 (.A0 a (.A0 b .B0))) (rK q q2))=E0 d at hd;obtain⟨k,d',O,eA,O⟩:=X60 hd;cases V2 using i5 with
   |B0=>simp at hl
   |A0 c V2=>
    obtain⟨t,hx,hy⟩:=hp 0 c.1 c.2 O;obtain O:=I3 hx;obtain O:=I3 hy;obtain⟨h0,y,t',e,hk⟩:=ra;cases e;exact⟨_,_,_,O,h0,hk,rb,ih rq eA (by simp at hl;omega) λ j κ v hj=>hp (j+1) κ v hj⟩
  |_=>exact eB0
theorem SP0{h:O1}{l:PV}{xs:P0 K0}(r:A4 G h l xs):∀{m d:PV}{ys:P0 K0}{k:C0}{x y:K0},A4 G h m ys->RI (rK l m)=E0 d->xs[k]?=E0 x->ys[k]?=E0 y->∃κ t,x=.Z0 κ t:=by
 refine yG (C:=λ l xs=>∀{m d:PV}{ys:P0 K0}{k:C0}{x y:K0},A4 G h m ys->RI (rK l m)=E0 d->xs[k]?=E0 x->ys[k]?=E0 y->∃κ t,x=.Z0 κ t) ?_ ?_ r
 ·intro m d ys k x y _ _ hx;simp at hx
 ·intro a q v vs ra _ ih m d ys k x y rm hd hx hy;cases m using Q3 with
  |B0=>have rm:ys=[]:=rm;subst rm;simp at hy
  |A0 b q2=>
   symm;obtain⟨u,us,O,rb,rq⟩:=rm;change RI (.A0 (.Q0 (.A0 a (.A0 b .B0))) (rK q q2))=E0 d at hd;obtain⟨k',d',O,eA,O⟩:=X60 hd;ext;induction k using TL with
   |K9=>obtain O:=I3 hx;obtain⟨h0,y',t',e,hk⟩:=ra;exact⟨_,_,e⟩
   |J9 k=>exact ih rq eA hx hy
  |_=>exact eB0
theorem TP0{h:O1}{l:PV}{vs:P0 K0}(r:A4 G h l vs):∀{d:PV},RI l=E0 d->∃ts:P0 (H1×K0×K0×C0),vs=XH (λ t=>x6 t.1)/\(∀t∈ts,C3 t.1=E0 (F8 [t.2.1,t.2.2.1] t.2.2.2))/\
  (∀t∈ts,∃κ u,t.2.1=.Z0 κ u)/\∀V2:P0 (u0×K0),KK=cN->(∀(j:C0)(κ:u0)(v:K0),V2[j]?=E0 (κ,v)->∃u t,ts[j]?=E0 t/\.Z0 κ u=t.2.1/\v=t.2.2.1)->U8 G h d V2:=by
 refine yG (C:=λ l vs=>∀{d:PV},RI l=E0 d->∃ts:P0 (H1×K0×K0×C0),vs=XH (λ t=>x6 t.1)/\(∀t∈ts,C3 t.1=E0 (F8 [t.2.1,t.2.2.1] t.2.2.2))/\
  (∀t∈ts,∃κ u,t.2.1=.Z0 κ u)/\∀V2:P0 (u0×K0),KK=cN->(∀(j:C0)(κ:u0)(v:K0),V2[j]?=E0 (κ,v)->∃u t,ts[j]?=E0 t/\.Z0 κ u=t.2.1/\v=t.2.2.1)->U8 G h d V2) ?_ ?_ r
 ·intro d hd;obtain O:=I3 hd;exact⟨[],O,λ _ h=>U3 h vD,λ _ h=>U3 h vD,λ V2 hl _=>by rw[QQ hl];exact O⟩
 ·intro a q v vs ra _ ih d hd;symm;obtain⟨k,p,d',O,eA,O⟩:=W60 hd;obtain⟨ts,O,h1,h2,h3⟩:=ih eA;obtain⟨T,ws,c,O,hT,e,x1,w1,O,⟨h0,y,t,O,hk⟩,x2,w2,O,r2,O⟩:=ra;ext;refine⟨(T,.Z0 y t,x2,c)::ts,O,λ t' ht=>?_,λ t' ht=>?_,λ V2 hl hp=>?_⟩
  ·rcases kA ht with O|ht
   ·exact e
   ·exact h1 t' ht
  ·rcases kA ht with O|ht
   ·exact⟨_,_,O⟩
   ·exact h2 t' ht
  ·cases V2 using i5 with
   |B0=>simp at hl
   |A0 c' V2=>
    symm;obtain⟨u,t',e1,e2,e3⟩:=hp 0 c'.1 c'.2 O;obtain O:=I3 e1;ext;cases e2;exact⟨_,_,_,O,h0,hk,e3▸r2,h3 V2 (by simpa using hl) λ j κ v hj=>hp (j+1) κ v hj⟩
theorem Ax(gd:J1 B A G s){y:PV}{v:K0}(r:H3 G W0 y v){γ:Type}{f:It->M γ}{P:γ->K1->Prop}{X:C0->K1->Prop}(M0:(F1 (fJ y) f R1).P1 P X):
  ∃l xs k a,v=.J0 l/\z9 k W0 l xs/\(f a R1).P1 P X/\∀q,lG R1 a=E0 q->A4 G W0 q SP:=by
 cases y using Q3 with
 |Q0 l=>
  obtain⟨a,vs,n,O,hz,e,rl⟩:=r;exact⟨a,OB,R0,.W5 l,O,⟨_,e,O,_,O⟩,M0,λ q hq=>by obtain O:=I3 hq;exact rl⟩
 |J0 i=>
  obtain⟨hi,O⟩:=r;have M0:(F1 ((match P3 i with|.M1 _=>W1 (tW i 0)|_=>F2 61):M It) f R1).P1 P X:=M0;generalize ex:P3 i=zo at M0;cases zo using FA with
  |M1 l=>
   obtain⟨vs,n,e,rl⟩:=BN gd hi ex;refine⟨Y2 i,OB,I0,.DG i 0,O,R9 e,M0,λ q hq=>?_⟩;have hq:(match P3 i with|.M1 l=>E0 l|_=>H0)=E0 q:=hq;rw[ex]at hq;obtain O:=I3 hq;exact rl
  |_=>exact C4
 |_=>exact C4
end
section
open PyProof.Rows
variable{B:Bs}{A:Around}{G G':Gh}{s s':Shared}{F:Addr->Prop}
variable{g:Nat->Option PV}{cl:Nat->Nat}{n:Nat}{ih:C5}{T:Tab}{cenv:Env}{L:Kinds}{env:PV}{k:Nat}
theorem yk{kd:I1}{h h':O1}{l I:H1}{xs:M4 K0}(hv:z9 kd h l xs)(hl:∀o,C3 l=E0 o->D3 l=E0 o)(hI:D3 I=E0 (DC kd l))(Z6:l≠I):B7 h' I l 0 xs:=by
 cases kd using o7
 ·exact⟨.L2 ⟨⟨_,hI,O,O⟩,hv.at hl⟩,Z6⟩
 ·exact⟨.S2 ⟨⟨_,hI,O,O⟩,hv.at hl⟩,Z6⟩
theorem UP0{k1 k2:I1}{l1 l2:H1}{xs ys:M4 K0}{Q E:K0->D1->Prop}(yU:z9 k1 W0 l1 xs)(SM:z9 k2 W0 l2 ys)
  (h:∀h',CW h' (P2+4) (P2+2) (P2+3) P2 (P2+1) l1 l2 xs ys 0->zF h' (P2+4) (P2+2) (P2+3) .H0->DI W0 h'->Q (.J0 (P2+4)) {s with B3:=h'}):
  V0 R2 A (X7 (.U0 "zip") [.J0 l1,.J0 l2]) Q E s:=by
 refine O50 yU SM λ h' hz wB rA TM mX hk=>h h' ⟨zipApart_new yU.lt SM.lt,wB,yk yU (λ o e=>hk _ _ e) TM (ZC yU.lt),yk SM (λ o e=>hk _ _ e) mX (ZC (xT SM.lt)),⟨_,rA⟩,.S2 ⟨hz,rA⟩⟩ hz hk
theorem Bx{h0 h1 h2:O1}{W:P0 H1}(k1:DI h0 h1)(hW:∀b∈W,h0.hO<=b)(k2:∀b o,b∉W->h1.X5 b=E0 o->h2.X5 b=E0 o):DI h0 h2:=λ b o e=>k2 b o (λ q=>U3 (r9 e) (lb (hW b q))) (k1 b o e)
theorem Y60(n:C0):∀b∈[n+4,n+3,n,n+1],n<=b:=λ b hb=>by
 simp only[uD,vD,eE]at hb;exact ω28 ‹_›
theorem Z60(gd:J1 B A G s){T:H1}(h:F3 T=H0):T∉F5:=λ q=>by obtain⟨_,o,e⟩:=ln _ q;rw[h]at e;contradiction
theorem VP0{a b N:C0}(ha:a<=N)(hN:N<=aA):xB a b<=aA:=X6 (Fu _ _) (X6 ha hN)
theorem a60(gd:J1 B A G s){h':O1}{tk:P6}{a:H1}{l:PV}{N3:M4 K0}{c:C0}(ha:P2<=a)(k:DI W0 h')(e:D3 a=E0 {O2:=.U0 "list",H2:=H0,M3:=.W5 N3 c,LC:=#[]})(r:A4 G h' l KU):
  J1 B A (r7 (.M1 l) a) {s with B3:=h',B4:=tk}/\A3 B N2 G s (r7 (.M1 l) a) {s with B3:=h',B4:=tk}/\H3 (r7 (.M1 l) a) h' (.J0 J3) (.J0 a):=by
 obtain⟨g2,I2⟩:=Vf (h':=h') (tk:=tk) (a:=a) (o:=.M1 l) k (TE ha) (X6 U_ ha) ⟨KU,c,by simpa using e,WI (qU _ _) λ b vs n _ e=>e⟩;exact⟨g2,I2,TD _,H6 x6 (y3 O).Z3⟩
theorem b60(gd:J1 B A G s){h':O1}{tk:P6}{a:H1}{d:PV}{V2:P0 (u0×K0)}(ha:P2<=a)(k:DI W0 h')(e:uf (GD gE oE) a (aK [] V2))(r:U8 G h' d V2):
  J1 B A (r7 (.H2 (VS d)) a) {s with B3:=h',B4:=tk}/\A3 B N2 G s (r7 (.H2 (VS d)) a) {s with B3:=h',B4:=tk}/\H3 (r7 (.H2 (VS d)) a) h' (.J0 J3) (.J0 a):=by
 have r2:U8 G h' (VS d) (aK [] V2):=l40 (V2:=[]) ub O r;obtain⟨g2,I2⟩:=Vf (h':=h') (tk:=tk) (a:=a) (o:=.H2 (VS d)) k (TE ha) (X6 U_ ha) ⟨_,e,r2.E5 (qU _ _) λ b vs n _ e=>e⟩;exact⟨g2,I2,TD _,H6 x6 (y3 O).Z3⟩
theorem Al(BF:S7 B g)(X:G5 B n A N0 L O0 G s){x:u0}{T:V6}(TA:VF x=H0/\UJ x=E0 (.U0 T))(hg:E7 L x=I0)(hd:(x==("__debug__":u0))=R0){a:C1}(ha:Q8 a=I0){p q:T3}{K E:K0->D1->Prop}
  (h:V0 R2 A (Q5 a N0) (λ u s1=>V0 R2 A (X7 (.U0 T) [u]) K E s1) E s):V0 R2 A (Q5 (.C7 (.u3 x p) [a] [] q) N0) K E s:=by
 refine mM (Od BF X TA hg hd ?_);have E4:[a].dA Q8=I0:=by simp[ha]
 refine AJ (by rw[IL E4];rfl) (BJ E4 ?_);rw[zI ha];exact zD (V3 h (λ u s1 h=>JJ ⟨GN,h⟩) λ _ _ h=>h)
theorem WP0(hh:F9=H0)(gd:J1 B A G s){i:C0}{l:PV}(hi:i<J3)(ex:P3 i=.M1 l)(hs:I5 l=I0):V4 B RV N2 A (Nh l) (X7 (.U0 "dict") [.J0 (Y2 i)]) G s:=by
 intro P Q M0;obtain⟨d,hd,M0⟩:=u9 (j6 M0);have M0:P (.J0 J3) (qL (.H2 (VS d))):=M0;obtain⟨vs,c,e,rl⟩:=BN gd hi ex;obtain⟨ts,O,h1,h2,h3⟩:=TP0 rl hd;have fH:cN<=60:=by have:=JL rl hs;simpa using J2
 refine V60 (W:=[]) (n:=cN) (P:=λ k x y=>∃t,ts[k]?=E0 t/\x=t.2.1/\y=t.2.2.1) ⟨_,e,O⟩ (by decide) (λ s' k=>LP0 (A:=oW) (k _ _ e) hh) (λ n5 W_ R E' k ug hR=>?_) λ h' tk V2 k eA hk=>?_
 ·refine gT (k:=I0) (show z9 I0 n5 (Y2 i) _ from(R9 e).at (k _)) ?_;have lt:P2<=n5.hO:=JU0 λ q=>by
   obtain⟨o1,_,_,e1,_⟩:=ug;exact fZ _ (C0.lt_trans (r9 e1) q)
  have VO:(n5.y6 (DC I0 (Y2 i))).WR (GD gE oE) P2 (aK [] []):=ug.y6 _;have up:DI W0 (n5.y6 (DC I0 (Y2 i))):=λ b o e=>T6 _ (k b o e);refine T60 (s:={s with B3:=n5.y6 (DC I0 (Y2 i)),B4:=W_}) ((MP0 (A:=oW) hh (it:=n5.hO) (S4:=Y2 i) (ts:=ts))) (λ k x y zz=>nU zz λ t ht e1 _=>?_) (CN fH) P2 ?_ .H0 _ 0 [] O (VN _) ⟨?_,λ t ht=>up _ _ (h1 t ht),λ t ht=>?_⟩ VO ⟨O,λ j κ v h=>by simp at h⟩ λ h' tk V2 hk eA hl=>?_
  ·obtain⟨κ,u,e2⟩:=h2 t (OL ht);exact⟨κ,u,e1.U2 e2⟩
  ·intro q;rcases kA q with q|q
   ·obtain⟨o1,_,_,e1,_⟩:=ug;exact U3 (r9 e1) (by rw[q];exact fZ _)
   ·rcases kA q with q|q
    ·exact ML e q
    ·obtain⟨t,ht,q⟩:=ca.mp q;exact ML (h1 t ht) ZK
  ·exact yk (kd:=I0) (R9 e) (λ o e=>up _ _ e) (DA _ O) (ZC (r9 (k _ _ e)))
  ·exact ZC (r9 (k _ _ (h1 t ht)))
  ·refine hR h' tk V2 (λ b o _ e=>hk b o (λ q=>?_) (up b o e)) eA hl;rcases kA q with q|q
   ·exact ML e ZK
   ·have:b=n5.hO:=by simpa using q
    exact U3 (r9 (k _ _ e)) (by rw[J2];exact fZ _)
 ·have kg:DI W0 h':=λ b o e=>k b o nofun e;obtain⟨g2,I2,r2⟩:=b60 (tk:=tk) gd (B8 _) kg eA ((h3 V2 hk.1 λ j κ v hj=>by obtain⟨u,t,a1,a2,a3⟩:=hk.2 j κ v hj;exact⟨u,t,a1,a2,a3⟩).E5 (.M5 G) λ b vs n _ e=>kg _ _ e);exact .at (R:=RV) (a:=.J0 J3) I2 g2 r2 M0
end
section
section
open PyProof.Rows
variable{B:Bs}{A:Around}{G G':Gh}{s s':Shared}{F:Addr->Prop}
variable{g:Nat->Option PV}{cl:Nat->Nat}{n:Nat}{ih:C5}{T:Tab}{cenv:Env}{L:Kinds}{env:PV}{k:Nat}
theorem yO{a b:I1}(h:(a&&b)=I0):a=I0/\b=I0:=by simpa using h
theorem c60{x y:It}{γ:Type}{f:PV->M γ}{P:γ->K1->Prop}{X:C0->K1->Prop}{σ:K1}(M0:(F1 (Oq x y) f σ).P1 P X):∃l m,lG σ x=E0 l/\lG σ y=E0 m/\I5 l=I0/\I5 m=I0/\(f (rK l m) σ).P1 P X:=by
 symm;have h0:(F1 (F1 (y5 69 (lG σ x)) (λ l=>F1 (y5 69 (lG σ y)) λ m=>pA 69 (I5 l&&I5 m) (W1 (rK l m)))) f σ).P1 P X:=M0;obtain⟨l,hl,h1⟩:=u9 (j6 (DB h0));obtain⟨m,hm,h2⟩:=u9 (j6 (DB h1));have h3:=j6 h2;obtain⟨hs,h4⟩:=ZX h3;ext;exact⟨l,m,hl,hm,(yO hs).1,(yO hs).2,h4⟩
theorem d60{h h':O1}(k:DI h h'){T:H1}(e:D3 T=H0):C3 T=H0:=by
 cases q:C3 T with
 |H0=>rfl
 |E0 o=>rw[k _ _ q]at e;contradiction
def e60:Mk->V6
 |.Q0=>"tuple"|.M1=>"list"|.H2=>"dict"
def HZ(B:Bs)(A:C6)(G:Gh)(s:D1)(P:PV->K1->Prop)(Q:C0->K1->Prop)(x:V6)(vs:P0 K0)(m:Mk)(G0:Gh)(s0:D1):Prop:=
 V0 R2 A (X7 (.U0 x) vs) (λ u s1=>V0 R2 A (X7 (.U0 (e60 m)) [u]) (Po B RV N2 A G0 s0 P) (Px B N2 A G0 s0 Q) s1) (Px B N2 A G0 s0 Q) s
theorem HZ.I8{P:PV->K1->Prop}{Q:C0->K1->Prop}{x:V6}{vs:P0 K0}{m:Mk}{G0:Gh}{s0:D1}(st:A3 B N2 G0 s0 G s)(h:HZ B A G s P Q x vs m G s):HZ B A G s P Q x vs m G0 s0:=
 V3 h (λ _ _ h=>V3 h (λ _ _ h=>RJ st) λ _ _ h=>RJ st) λ _ _ h=>RJ st
theorem Cx{xs:M4 K0}{n:C0}(h:VK=n):xs.F80=n:=h
section
variable{P:PV->K1->Prop}{Q:Nat->K1->Prop}{k1 k2:Bool}{l1 l2:Addr}{xs ys:Array Value}{a1 a2:It}{h':Heap}{z TI TO i1 i2:Addr}
theorem f60{l:PV}(h:A4 G W0 l SP)(hs:I5 l=I0):xB VK kf<=aA:=by
 have:=JL h hs;rw[Os]at J2;exact VP0 J2 (by rw[LI];decide)
theorem XP0(hh:F9=H0)(g1:J1 B A G s)(FH:∀q,lG R1 a1=E0 q->A4 G W0 q SP)(BS:∀q,lG R1 a2=E0 q->A4 G W0 q ys.bE)(hz:CW h' z TI TO i1 i2 l1 l2 xs ys 0)(GQ:zF h' z TI TO .H0)
  (hk:DI W0 h')(hW:∀b∈[z,TO,i1,i2],P2<=b)(M0:(aM .M1 (.v8 a1 a2) R1).P1 P Q):V0 R2 A (X7 (.U0 "list") [.J0 z]) (Po B RV N2 A G s P) (Px B N2 A G s Q) {s with B3:=h'}:=by
 obtain⟨l,m,hl,hm,mH,kH,h5⟩:=c60 M0;have h5:P (.J0 J3) (qL (.M1 (rK l m))):=h5;have lt:P2<=NB:=NP (vi (hW z (.J8 _)) (r9 GQ));refine CP0 (s:={s with B3:=h'}) gA0 hh (λ A hh=>jk hh) (f60 (FH _ hl) mH) ⟨_,GQ,O⟩ hz λ h2 tk N3 c k2 e pr=>?_;have gr:=Bx hk hW k2;have r:=NP0 ((FH l hl).E5 (.M5 G) λ b vs n _ e=>gr _ _ e) ((BS m hm).E5 (.M5 G) λ b vs n _ e=>gr _ _ e) (N3:=KU) (Cx pr.1) λ j v hj=>by
  obtain⟨T,x,y,O,_,e,⟨q1,q2⟩,q0⟩:=pr.2 j v (by simpa using hj);exact⟨x,y,⟨T,O,Z60 g1 (d60 hk q0),e⟩,by simpa using q1,by simpa using q2⟩
 obtain⟨g2,I2,r2⟩:=a60 (tk:=tk) g1 lt gr e r;exact .at (R:=RV) (a:=.J0 J3) I2 g2 r2 h5
theorem YP0(hh:F9=H0)(g1:J1 B A G s)(FH:∀q,lG R1 a1=E0 q->A4 G W0 q SP)(BS:∀q,lG R1 a2=E0 q->A4 G W0 q ys.bE)(hz:CW h' z TI TO i1 i2 l1 l2 xs ys 0)(GQ:zF h' z TI TO .H0)
  (hk:DI W0 h')(hW:∀b∈[z,TO,i1,i2],P2<=b)(M0:(aM .H2 (.v8 a1 a2) R1).P1 P Q):V0 R2 A (X7 (.U0 "dict") [.J0 z]) (Po B RV N2 A G s P) (Px B N2 A G s Q) {s with B3:=h'}:=by
 obtain⟨l,m,hl,hm,mH,kH,h5⟩:=c60 M0;obtain⟨d,eA,h5⟩:=u9 (j6 h5);have h5:P (.J0 J3) (qL (.H2 (VS d))):=h5;have lt:P2<=NB:=NP (vi (hW z (.J8 _)) (r9 GQ));have nT:NB∉[z,TO,i1,i2,TI,l1,l2]:=λ q=>by obtain⟨o,e⟩:=(jk (A:=A) (L3:=gE) (w:=oE) hh).l9 _ _ hz _ q;exact ML e O
 refine V60 (s:={s with B3:=h'}) (W:=[z,TO,i1,i2]) (n:=xB VK kf) (P:=λ k x y=>xs[k]?=E0 x/\ys[k]?=E0 y) ⟨_,GQ,O⟩ (by decide) (λ s' k=>KP0 (A:=oW) (k _ _ GQ) hh) (λ n5 W_ R E' kk ug hR=>?_) λ h2 tk V2 k2 VO hkv=>?_
 ·refine gA0.lI (s:={s with B3:=n5,B4:=W_}) ⟨_,kk _ _ GQ,O⟩ ?_;refine T60 (s:={s with B3:=n5,B4:=W_}) (jk (A:=oW) hh).d (λ k x y zz=>EO zz λ e1 e2=>SP0 (FH l hl) (BS m hm) eA (by simpa using e1) (by simpa using e2)) (f60 (FH _ hl) mH) NB nT .H0 _ 0 [] O (VN _) ((jk (A:=A) (L3:=gE) (w:=oE) hh).HD 0 _ _ NB nT hz (λ b o _ e=>kk b o e) λ o e=>⟨o,kk _ _ e⟩) ug ⟨O,λ j κ v h=>by simp at h⟩ λ h2 tk V2 eG VO SM=>?_;exact hR h2 tk V2 (λ b o hb e=>eG b o (λ q=>(kA q).KB (λ q=>ML e ZK) hb) (kk b o e)) VO SM
 ·have gr:=Bx hk hW k2;have r:=RP0 ((FH l hl).E5 (.M5 G) λ b vs n _ e=>gr _ _ e) ((BS m hm).E5 (.M5 G) λ b vs n _ e=>gr _ _ e) eA (V2:=V2) hkv.1 λ j κ v hj=>by
   obtain⟨t,q1,q2⟩:=hkv.2 j κ v hj;exact⟨t,by simpa using q1,by simpa using q2⟩
  obtain⟨g2,I2,r2⟩:=b60 (tk:=tk) g1 lt gr VO r;exact .at (R:=RV) (a:=.J0 J3) I2 g2 r2 h5
theorem ZP0(hh:F9=H0)(g1:J1 B A G s)(nH:z9 k1 W0 l1 xs)(lX:z9 k2 W0 l2 ys)(FH:∀q,lG R1 a1=E0 q->A4 G W0 q SP)(BS:∀q,lG R1 a2=E0 q->A4 G W0 q ys.bE){m:Mk}
  (M0:(aM m (.v8 a1 a2) R1).P1 P Q):HZ B A G s P Q "zip" [.J0 l1,.J0 l2] m G s:=by
 refine UP0 nH lX λ h' hz GQ hk=>?_;cases m using yf with
 |Q0=>exact C4
 |M1=>exact XP0 hh g1 FH BS hz GQ hk (Y60 _) M0
 |H2=>exact YP0 hh g1 FH BS hz GQ hk (Y60 _) M0
theorem aP0(hh:F9=H0)(g1:J1 B A G s)(nH:z9 k1 W0 l1 xs)(FH:∀q,lG R1 a1=E0 q->A4 G W0 q SP){m:Mk}(M0:(aM m (.OE 0 a1) R1).P1 P Q):HZ B A G s P Q "enumerate" [.J0 l1] m G s:=by
 refine P50 nH λ h' he TM hk=>?_;cases m using yf with
 |M1=>exact C4
 |H2=>exact C4
 |Q0=>
  have xA:(F1 (y5 69 (lG R1 a1)) (λ l=>pA 69 (I5 l&&Y1 0 0) (W1 (.Q0 (HY l 0)))) R1).P1 P Q:=M0;obtain⟨l,hl,h4⟩:=u9 (j6 xA);obtain⟨hs,h5⟩:=ZX h4;have h5:P (.Q0 (HY l 0)) R1:=h5;have n60:VK<=aA:=by have:=JL (FH _ hl) (yO hs).1;rw[Os]at J2;exact CN J2
  have hz:ESt h' (P2+1) P2 l1 xs 0:=⟨EU0 _,ZC (xT nH.lt),yk nH (λ o e=>hk _ _ e) TM (ZC nH.lt),.H0,.S2 he⟩;refine EP0 (s:={s with B3:=h'}) hW0 O hh (λ A hh=>tO0 hh) n60 ⟨_,he,O⟩ hz λ h2 tk N3 k2 pr=>?_;have gr:DI W0 h2:=Bx hk (λ b hb=>Vi (P:=λ b=>P2<=b) (B50.mp hb) (UN _) (B8 _)) k2;have r:=OP0 (n:=0) ((FH l hl).E5 (.M5 G) λ b vs n _ e=>gr _ _ e) (N3:=KU) (Cx pr.1) λ j v hj=>by
   obtain⟨T,x,y,O,_,e,⟨q1,q2⟩,q0⟩:=pr.2 j v (by simpa using hj);exact⟨x,y,⟨T,O,Z60 g1 (d60 hk q0),e⟩,by simpa using q1,by simpa using q2⟩
  obtain⟨g2,I2⟩:=GB0 (h':=h2.y6 (F8 KU 0)) (tk:=tk) λ b o e=>vA _ _ _ _ (gr b o e);have:=wN (R:=RV) (a:=.Q0 (HY l 0)) (b:=.J0 h2.hO) I2 g2 ⟨_,KU,0,O,λ q=>by obtain⟨_,o,e⟩:=r00 _ q;exact U3 (r9 (gr _ _ e)) (fZ _),DA _ O,WI (.M5 G) λ b vs n _ e=>vA _ _ _ _ e⟩ h5;simpa using J2
theorem bP0(hh:F9=H0)(g1:J1 B A G s){c:C0}{t:P6}{m:Mk}(hm:c<=60)(M0:(aM m (.jG 0 c) R1).P1 P Q):HZ B A G s P Q "range" [.j0 (.O4 c) t] m G s:=by
 cases m using yf with
 |Q0=>exact C4
 |H2=>exact C4
 |M1=>
  have h5:P (.J0 J3) (qL (.M1 (Nq c 0))):=M0;refine P90 ?_;have Z7:x80 0 (GA c) 1=(c:B2):=by
   rw[K90]
   split
   ·simp
   ·rename_i q;have:(GA c:B2)=c:=O;exact ω30 ‹_›
  refine call_list_range hh (q90 ..) (AA0 (by decide) (by decide) (by have:(0:B2)<=GA c:=PL c;exact PL _) (by have:(GA c:B2)<=60:=I90 hm;omega)) Z7 (by exact KM ‹_› O) λ h2 tk N3 c' k2 e pr=>?_;have gr:DI W0 h2:=λ b o e=>k2 b o (vA _ _ _ _ e);obtain⟨g2,I2,r2⟩:=a60 (tk:=tk) g1 (NP (by rw[bD];exact TD _)) gr e (PP0 (n:=c) (a:=0) (Cx pr.1) λ j v hj=>by
   obtain⟨t,O⟩:=pr.2 j v (by simpa using hj);exact⟨t,by simp⟩)
  exact .at (R:=RV) (a:=.J0 J3) I2 g2 r2 h5
end
theorem Ex(BF:S7 B g)(LV:Lv B g cl n ih):ud B g cl n ih:=by
 intro A G s N0 L O0 k m a p q X hg ha;intro P Q M0;have TA:VF (ye m)=H0/\UJ (ye m)=E0 (.U0 (e60 m)):=by
  cases m using yf with
  |Q0=>exact CO _ _ (OL (i:=4) O)
  |M1=>exact CO _ _ (OL (i:=5) O)
  |H2=>exact CO _ _ (OL (i:=6) O)
 have hd:(ye m==("__debug__":u0))=R0:=by cases m<;>decide
 have sh:=G20 (cE g cl k L) L a;generalize cI (cE g cl k L) L a=c at sh M0;cases sh using CI.n8 with
 |v8 e1 e2 p' q' gX hf=>
  have M0:(F1 (R5 (cE g cl k L e1) O0) (λ y=>F1 (R5 (cE g cl k L e2) O0) λ y2=>F1 (fJ y) λ x=>F1 (fJ y2) λ z=>aM m (.v8 x z)) R1).P1 P Q:=
   IK (DB M0) λ _ _ h=>IK (DB h) λ _ _ h=>IK (DB h) λ _ _ h=>DB h
  refine Al BF X TA hg hd ha (Q50 BF y8 X (CO "zip" (.U0 "zip") (OL (i:=7) O)) gX (by decide) (λ _=>GN) (xj hf).1 (xj hf).2 M0 λ G1 s1 y u y2 u2 C2 g1 ru uV B5=>?_);obtain⟨l1,xs,k1,a1,O,nH,xA,FH⟩:=Ax g1 ru B5;obtain⟨l2,ys,k2,a2,O,lX,Nv,BS⟩:=Ax g1 uV xA;exact(ZP0 Qo g1 nH lX FH BS Nv).I8 C2
 |OE e1 p' q' gX hf=>
  have M0:(F1 (R5 (cE g cl k L e1) O0) (λ y=>F1 (fJ y) λ x=>aM m (.OE 0 x)) R1).P1 P Q:=IK (DB M0) λ _ _ h=>DB h;refine Al BF X TA hg hd ha (vV BF y8 X (CO "enumerate" (.U0 "enumerate") (OL (i:=8) O)) gX (by decide) (λ _=>GN) (Qd hf) M0 λ G1 s1 y u C2 g1 ru B5=>?_);obtain⟨l1,xs,k1,a1,O,nH,xA,FH⟩:=Ax g1 ru B5;exact(aP0 Qo g1 nH FH xA).I8 C2
 |qm e1 p' q' gX hf=>
  have M0:(F1 (R5 (cE g cl k L e1) O0) (λ v=>F1 ((match v with|.j0 (.O4 n)=>bif T9 n 60 then W1 (.jG 0 n)else F2 65|_=>F2 65):M It) (aM m)) R1).P1 P Q:=DB M0;refine Al BF X TA hg hd ha (vV BF y8 X (CO "range" (.U0 "range") (OL (i:=9) O)) gX (by decide) (λ _=>GN) (Qd hf) M0 λ G1 s1 y u C2 g1 ru B5=>?_);obtain⟨c,t,O,hm,B5⟩:∃c t,u=.j0 (GA c) t/\T9 c 60=I0/\(aM m (.jG 0 c) qF).P1 P Q:=by
   cases y using Q3 with
   |j0 i=>
    cases i using ZL with
    |O4 c=>
     change(F1 (bif T9 c 60 then W1 (gU 0 c)else F2 65) (aM m) qF).P1 P Q at B5;cases hm:T9 c 60 with
     |R0=>rw[hm]at B5;exact cP
     |I0=>
      rw[hm]at B5;obtain⟨t,e⟩:=ru;exact⟨c,t,e,hm,B5⟩
    |_=>exact cP
   |_=>exact cP
  exact(bP0 Qo g1 (u6 hm) B5).I8 C2
 |W5=>
  refine Al BF X TA hg hd ha ((y8 X).s8 M0 λ G1 s1 y u C2 g1 ru B5=>?_);cases m using yf with
  |Q0=>exact(qL0 g1 ru).I8 C2 B5
  |M1=>exact(sL0 Qo g1 ru).I8 C2 B5
  |H2=>
   cases y using Q3 with
   |J0 i=>
    have ru':=ru;obtain⟨hi,O⟩:=ru;change((match nW i with|.H2 l=>bif I5 l then V9 (.H2 l)else F2 69|.M1 l=>bif I5 l then Nh l else F2 69|_=>F2 69:M PV) qF).P1 P Q at B5;generalize ex:nW i=zo at B5;cases zo using FA with
    |H2 l=>
     cases hs:I5 l with
     |R0=>dsimp only at B5;rw[hs]at B5;exact cP
     |I0=>dsimp only at B5;rw[hs]at B5;exact(rL0 g1 ru' O ex hs).I8 C2 B5
    |M1 l=>
     cases hs:I5 l with
     |R0=>dsimp only at B5;rw[hs]at B5;exact cP
     |I0=>dsimp only at B5;rw[hs]at B5;exact(WP0 Qo g1 hi ex hs).I8 C2 B5
    |_=>exact cP
   |_=>exact cP
 |M2=>
  cases m<;>exact C4
end
end
section
open PyProof.Rows
variable{B:Bs}{A:Around}{G G':Gh}{s s':Shared}{F:Addr->Prop}
theorem cP0{N3:M4 K0}(h1:g00=1):∃v,N3=#[v]:=by
 obtain⟨v,hv⟩:=P0.length_eq_one_iff.mp (show N3.F80=1 by rw[Os];exact h1);exact⟨v,by rw[<-mr (xs:=N3),hv]⟩
theorem Fx(n:C0):vd B n:=by
 intro A G s y v D6 gd r P Q M0;symm;have hh:=D6.wZ;cases y using Q3 with
 |J0 i=>
  obtain⟨hi,O⟩:=r;change(F1 (y5 24 (Dh (P3 i))) (λ k=>V9 (.M1 (.A0 (.Z0 k) .B0))) R1).P1 P Q at M0;obtain⟨k,hk,hP⟩:=u9 (j6 M0);cases ex:P3 i with
  |H2 l=>
   rw[ex]at hk;cases l using Q3 with
   |kv k' v' r'=>
    cases r' using Q3 with
    |B0=>
     obtain O:=I3 hk;obtain⟨V2,hd,rd⟩:=mQ gd hi ex;obtain⟨x,u,q,O,h0,hx,_,e3⟩:=rd;have e3:q=[]:=e3;subst e3 hx;obtain⟨ep,E8⟩:=AW0;ext;refine call_function_entry kind_sorted plain_sorted entry_sorted (args_sorted1 _) ?_;refine S0 (m:=checkCount "sorted" 1 1 _) (E2 ?_);refine S0 (kdu_collect (A:=sB) (aW0 (pC:=EP.GD gE oE) (wM gd hi (by rw[ex];simp))) hh E8 (by rw[LI];simp) λ h' tk N3 MC D7=>?_);symm;obtain⟨h1,h2⟩:=D7;obtain⟨v,O⟩:=cP0 h1;obtain⟨k2,x2,e2,eG⟩:=h2 0 v O;ext;cases e2;obtain⟨t,O⟩:=XU0 eG;refine S0 (wpAny_newList ?_ (by rw[LI];simp));have ho:(gf (ny "list" [on x t].P8 0)).X5 NB=E0 (ny "list" [on x t].P8 0):=DA _ O;refine S0 (A8 (TC slot_list_sort ⟨_,ho,O⟩ entry_list_sort (list_sort_treeK (vs:=[.Z0 x t]) strKind_oneLt ho (StrsAre.keysOf (strsAre_map _ λ v hv=>⟨x,t,by simpa using hv⟩)) (λ _ _ _ e=>by simp at e) (by simp) λ SA hp _=>⟨_,O,?_⟩) (args_list_sort _)));have hout:(arrOf SA).Y4 (·.2)=#[.Z0 x t]:=by
      have h3:(arrOf SA).bE.Perm [(.Z0 x t,.Z0 x t)]:=by
       have:=M4.perm_iff_toList_perm.mp hp
       rwa [pairsOf_toList]at J2
      rw[<-mr (xs:=arrOf SA),P0.perm_singleton.mp h3];simp
     rw[hout];symm;obtain⟨e,he⟩:=sortedHeap_at (out:=#[.Z0 x t]) ho;have kg:∀b o,F3 b=E0 o->(jV0 (gf (ny "list" [on x t].P8 0)) NB [.Z0 x t] #[.Z0 x t]).X5 b=E0 o:=λ b o e=>by
      have e1:=MC b o e;rw[sortedHeap_old (ZC (r9 e1)) (by rw[size_push'];exact xT (r9 e1))];exact T6 _ e1
     have ht:F3 NB=H0:=by
      cases q:F3 NB with
      |H0=>rfl
      |E0 o=>exact U3 (r9 (MC _ _ q)) (fZ _)
     have lt:VH.hO<=NB:=B.Eg h' (xR _ _ (λ b o e _=>MC _ _ e) gd.NG) λ b o e h1 h2 h3=>MC _ _ (IC b o e h1 h2 h3);obtain⟨g2,I2⟩:=Vf (h':=jV0 (gf (ny "list" [on x t].P8 0)) NB [.Z0 x t] #[.Z0 x t]) (tk:=tk) (a:=NB) (o:=.M1 (.A0 (.Z0 (vc x)) .B0)) kg ht lt ⟨[.Z0 x t],e,he,_,_,O,⟨h0,_,_,O,O⟩,O⟩;ext;exact E2 ⟨_,O,.at (R:=RV) (a:=.J0 J3) I2 g2 ⟨TD _,H6 x6 (y3 O).Z3⟩ hP⟩
    |_=>contradiction
   |_=>contradiction
  |_=>
   ext;rw[ex]at hk;contradiction
 |_=>exact C4
end
section
open PyProof.Rows
variable{ι:Nat->Nat}{K:Nat}{B:Bs}{A:Around}{G G0 G1:Gh}{s s':Shared}{F:Addr->Prop}
structure Va(G0 G:Gh)(ι:C0->C0)(K:C0):Prop where
 av:gz=F5
 le:K<=YW.n
 em:∀i,i<K->ι i<J3/\G0.ρ i=Y2 (ι i)
theorem Bl(X:Va G0 G ι K){h:O1}:∀{p:PV},UD K p=I0->(∀v,H3 G0 h p v↔H3 G h (fM ι p) v)/\(∀l,A4 G0 h p l↔A4 G h (fM ι p) l):=by
 intro p;induction p with
 |J0 i=>
  intro hg;have hi:i<K:=u6 hg;exact⟨λ v=>⟨λ Z2=>by obtain⟨_,e⟩:=Z2;exact⟨(mE i hi).1,e.U2 (H6 _ (mE i hi).2)⟩,λ Z2=>by obtain⟨_,e⟩:=Z2;exact⟨W8 hi Eo,e.U2 (H6 _ (mE i hi).2.Z3)⟩⟩,λ _=>tF⟩
 |A0 a r MG RA=>
  intro hg;have hg:=yO hg;refine⟨λ _=>tF,λ l=>⟨λ Z2=>by obtain⟨v,q,e,x,y⟩:=Z2;exact⟨v,q,e,((MG hg.1).1 v).mp x,((RA hg.2).2 q).mp y⟩,λ Z2=>by obtain⟨v,q,e,x,y⟩:=Z2;exact⟨v,q,e,((MG hg.1).1 v).C8 x,((RA hg.2).2 q).C8 y⟩⟩⟩
 |Q0 l ih=>
  intro hg;refine⟨λ v=>⟨λ⟨a,vs,k,e,z,x,y⟩=>⟨a,vs,k,e,by rw[<-y_];exact z,x,((ih hg).2 vs).mp y⟩,λ Z2=>by obtain⟨a,vs,k,e,z,x,y⟩:=Z2;exact⟨a,vs,k,e,by rw[y_];exact z,x,((ih hg).2 vs).C8 y⟩⟩,λ _=>tF⟩
 |ty=>intro hg;contradiction
 |wr=>intro hg;contradiction
 |pC=>intro hg;contradiction
 |_=>intro _;exact⟨λ _=>tF,λ _=>tF⟩
theorem Dl(X:Va G0 G ι K){h:O1}:∀{p:PV},UD K p=I0->∀l,U8 G0 h p l↔U8 G h (fM ι p) l:=by
 intro p;induction p with
 |kv k v r _ ih=>
  intro hg l;have hg:=yO hg;exact⟨λ Z2=>by obtain⟨x,u,q,e,h0,hx,hv,hr⟩:=Z2;exact⟨x,u,q,e,h0,hx,((Bl X hg.1).1 u).mp hv,(ih hg.2 q).mp hr⟩,λ Z2=>by obtain⟨x,u,q,e,h0,hx,hv,hr⟩:=Z2;exact⟨x,u,q,e,h0,hx,((Bl X hg.1).1 u).C8 hv,(ih hg.2 q).C8 hr⟩⟩
 |_=>intro _ _;exact tF
theorem Gx{o:AO}(h:RQ o=I0):∃l,o=.W6 l:=by cases o using FA<;>first|exact⟨_,O⟩|contradiction
theorem dP0(X:Va G0 G ι K){h:O1}{a:H1}{o:AO}(hg:SQ YW K o=I0)(x:zE B G h a (NV ι o)):zE B G0 h a o:=by
 cases o using FA with
 |M1 l=>obtain⟨vs,k,e,r⟩:=x;exact⟨vs,k,e,((Bl X hg).2 vs).C8 r⟩
 |H2 l=>obtain⟨V2,d,r⟩:=x;exact⟨V2,d,(Dl X hg V2).C8 r⟩
 |W6 l=>obtain⟨V2,o,e,hc,hn,nd,r⟩:=x;exact⟨V2,o,e,hc,hn,nd,(Dl X hg V2).C8 r⟩
 |w7 c d=>
  have hg:=yO hg;have hd:d<K:=by simpa[IH]using hg.1
  obtain⟨e,_⟩:=x;exact⟨by rw[(mE d hd).2];exact e,W8 hd Eo,Gx hg.2⟩
 |S4=>exact x
 |_=>contradiction
theorem eP0(X:Va G0 G ι K){h:O1}{a:H1}{o:AO}(hg:SQ YW K o=I0)(hf:∀d,d<K->RQ (NI d)=I0->RQ (P3 (ι d))=I0)(x:zE B G0 h a o):zE B G h a (NV ι o):=by
 cases o using FA with
 |M1 l=>obtain⟨vs,k,e,r⟩:=x;exact⟨vs,k,e,((Bl X hg).2 vs).mp r⟩
 |H2 l=>obtain⟨V2,d,r⟩:=x;exact⟨V2,d,(Dl X hg V2).mp r⟩
 |W6 l=>obtain⟨V2,o,e,hc,hn,nd,r⟩:=x;exact⟨V2,o,e,hc,hn,nd,(Dl X hg V2).mp r⟩
 |w7 c d=>
  have hg:=yO hg;have hd:d<K:=by simpa[IH]using hg.1
  obtain⟨e,_⟩:=x;exact⟨by rw[<-(mE d hd).2];exact e,(mE d hd).1,Gx (hf d hd hg.2)⟩
 |S4=>exact x
 |_=>contradiction
structure FG(G0 G:Gh)(ι:C0->C0)(K:C0):Prop extends Va G0 G ι K where
 m:YW.m=0
 ne:G0.pP=[]
 Y0:∀i,K<=i->NI i=.K4
 q8:∀i,i<K->NI i=.K4\/(SQ YW K (NI i)=I0/\P3 (ι i)=NV ι (NI i))
 KT:∀i j,i<K->j<K->NI i≠.K4->NI j≠.K4->ι i=ι j->i=j
theorem fP0{ι:C0->C0}{σ:K1}{k:C0}{o:AO}(h:SQ σ k o=I0):NV ι o≠.K4:=by
 cases o using FA<;>first|(intro q;contradiction;done)|cases h
theorem FG.lt(X:FG G0 G ι K){i:C0}(h:NI i≠.K4):i<K:=C0.lt_of_not_le λ q=>h (X.Y0 i q)
theorem FG.QF(X:FG G0 G ι K){i:C0}(h:NI i≠.K4):i<K/\SQ YW K (NI i)=I0/\P3 (ι i)=NV ι (NI i)/\P3 (ι i)≠.K4:=by
 have hi:=X.lt h;rcases X.q8 i hi with q|⟨q1,q2⟩
 ·exact U3 q h
 ·exact⟨hi,q1,q2,q2▸fP0 q1⟩
theorem FG.fl(X:FG G0 G ι K):∀d,d<K->RQ (NI d)=I0->RQ (P3 (ι d))=I0:=λ d hd hf=>by
 obtain⟨l,hl⟩:=Gx hf;obtain⟨_,_,q,_⟩:=Da (i:=d) (by rw[hl];simp);rw[q,hl];rfl
theorem FG.good(X:FG G0 G ι K)(g:J1 B A G s):J1 B A G0 s:=by
 refine⟨⟨λ i hi=>?_,λ i hi=>?_,λ p hp=>?_⟩,⟨λ i j hi hj ni nj e=>?_,λ i hi=>?_,λ i hi=>X.Y0 i (X6 Eo hi),λ i hi hn=>?_,by rw[y_];exact DE⟩,VB,lE,WJ⟩
 ·rw[X.m]at hi;exact U3 hi (RG _)
 ·rw[X.m]at hi;exact U3 hi (RG _)
 ·rw[X.ne]at hp;contradiction
 ·obtain⟨a1,_,_,a4⟩:=Da ni;obtain⟨b1,_,_,b4⟩:=Da nj;rw[(mE i a1).2,(mE j b1).2]at e;exact X.KT i j a1 b1 ni nj (UG _ _ (mE i a1).1 (mE j b1).1 a4 b4 e)
 ·by_cases ha:NI i=.K4
  ·rw[ha];trivial
  ·obtain⟨a1,a2,a3,_⟩:=Da ha;have:=HA _ (mE i a1).1;rw[a3,<-(mE i a1).2]at J2;exact dP0 X.toEmb a2 J2
 ·obtain⟨a1,_,_,a4⟩:=Da hn;rw[(mE i a1).2];exact yC _ (mE i a1).1 a4
theorem FG.sU(X:FG G0 G ι K)(g:J1 B A G s)(st:A3 B N2 G0 s G1 s')(g1:J1 B A G1 s')(hk:∀i,i<K->nW i=NI i):J1 B A G s'/\A3 B N2 G s G s':=by
 have v9:∀b,w9 G0 b->w9 G b:=λ b zz=>nU zz λ i hi hn e=>by
  obtain⟨a1,_,_,a4⟩:=Da hn;exact⟨ι i,(mE i a1).1,a4,(mE i a1).2.Z3.U2 e⟩
 have E1:Va G1 G ι K:=⟨RX.U2 y_,X6 Eo IU.n,λ i hi=>⟨(mE i hi).1,(j_ i (W8 hi Eo)).U2 (mE i hi).2⟩⟩;have zQ:mD=F5:=RX.U2 y_;have Q0:CC F5 W0 U6:=by rw[<-y_];exact JX
 refine⟨⟨LE,⟨UG,λ i hi=>?_,kL,yC,by rw[<-zQ];exact r00⟩,b00,g1.NG,g1.fr⟩,⟨Pf,.M5 G,λ b x=> .S2 x,mf,λ b o e h1 h2 h3=>MX b o e (λ q=>h1 (v9 b q)) h2 h3,Q0,DX⟩⟩;by_cases ha:P3 i=.K4
 ·rw[ha];trivial
 ·by_cases ho:w9 G0 (Y2 i)
  ·obtain⟨j,hj,hn,e⟩:=ho;obtain⟨a1,a2,a3,a4⟩:=Da hn;have:ι j=i:=UG _ _ (mE j a1).1 hi a4 ha ((mE j a1).2.Z3.U2 e);subst J2;have ob:=g1.ip j (W8 hj IU.n);rw[j_ j hj,hk j a1,(mE j a1).2]at ob;rw[a3];have hfl:∀d,d<K->RQ (nW d)=I0->RQ (P3 (ι d))=I0:=λ d hd hf=>X.fl d hd (hk d hd▸hf);have aF:SQ qF K (NI j)=I0:=by
    cases q:NI j with
    |w7 c d=>
     rw[q]at a2;have hg:=yO a2;have hd:d<K:=by simpa[IH]using hg.1
     show(Y6 d K&&RQ (nW d))=I0;rw[hg.1,hk d hd,hg.2];rfl
    |_=>rw[q]at a2;exact a2
   exact eP0 E1 aF hfl ob
  ·refine(HA i hi).E5 (.M5 G) Q0 DX (λ ob e=>?_) λ d l _ x=>⟨l,x⟩;obtain⟨sM,e',Ma⟩:=(HA i hi).l9 ha;rw[e]at e';obtain O:=I3 e';obtain⟨o',e2,q⟩:=MX _ ob e ho (λ q=>q) λ hz=>by
    obtain⟨o,e⟩:=jn _ hz;rw[yC i hi ha]at e;contradiction
   rw[q.eq (λ q=>Ma (.L2 (.S2 q))) (λ q=>Ma (.L2 (.L2 (.S2 q))))]at e2;exact e2
theorem El{h:O1}:∀{p:PV},UD 0 p=I0->(∀v,H3 G h p v↔rJ F5 p h v)/\(∀l,A4 G h p l↔Y30 F5 p h l):=by
 intro p;induction p with
 |J0 i=>intro hg;exact U3 (u6 hg) (ii i)
 |A0 a r MG RA=>
  intro hg;have hg:=yO hg;refine⟨λ _=>tF,λ l=>⟨λ Z2=>by obtain⟨v,q,e,x,y⟩:=Z2;exact⟨v,q,e,((MG hg.1).1 v).mp x,((RA hg.2).2 q).mp y⟩,λ Z2=>by obtain⟨v,q,e,x,y⟩:=Z2;exact⟨v,q,e,((MG hg.1).1 v).C8 x,((RA hg.2).2 q).C8 y⟩⟩⟩
 |Q0 l ih=>
  intro hg;refine⟨λ v=>⟨λ⟨a,vs,k,e,z,x,y⟩=>⟨a,vs,k,e,z,x,((ih hg).2 vs).mp y⟩,λ Z2=>by obtain⟨a,vs,k,e,z,x,y⟩:=Z2;exact⟨a,vs,k,e,z,x,((ih hg).2 vs).C8 y⟩⟩,λ _=>tF⟩
 |ty=>intro hg;contradiction
 |wr=>intro hg;contradiction
 |pC=>intro hg;contradiction
 |_=>intro _;exact⟨λ _=>tF,λ _=>tF⟩
theorem HX:∀t:Ty,UD 0 XF=I0
 |u8=>O|yE=>O|X=>O
 |Y8 t=>by show(I0&&(UD 0 XF&&I0))=I0;rw[gP0 t];rfl
 |Z8 t=>by show(I0&&(I0&&(I0&&((UD 0 XF&&I0)&&I0))))=I0;rw[gP0 t];rfl
theorem iz:∀t:Ty,UD 0 xU=I0
 |u8=>O|yE=>O|X=>O
 |Y8 t=>by show(I0&&(I0&&(((I0&&(I0&&((UD 0 xU&&I0)&&I0)))&&I0)&&I0)))=I0;rw[hP0 t];rfl
 |Z8 t=>by show(I0&&(I0&&(((I0&&(I0&&((UD 0 xU&&I0)&&I0)))&&I0)&&I0)))=I0;rw[hP0 t];rfl
theorem iP0{h:O1}{i:C0}{v:K0}:H3 G h (.ty i) v↔i<UB/\H3 G h (J5 i).p v:=uT0 λ _=>((El (HX _)).1 v).Z3
theorem g60{h:O1}{i:C0}{v:K0}:H3 G h (.wr i) v↔i<UB/\H3 G h (J5 i).w v:=uT0 λ _=>((El (iz _)).1 v).Z3
theorem Be{h:O1}{p:PV}(hg:UD 0 p=I0)(zQ:gz=F5){v:K0}:H3 G0 h p v↔H3 G h p v:=by
 rw[(El hg).1,(El hg).1,zQ]
end
section
variable{ι:Nat->Nat}{K:Nat}{B:Bs}{A:Around}{G G0 G1:Gh}{s s':Shared}{n:Nat}
theorem jP0:∀{a b:B2},ua a b=I0->a=b
 |.O4 m,.O4 n,h=>by rw[M6 h]
 |.PB m,.PB n,h=>by rw[M6 h]
 |.O4 _,.PB _,h=>by contradiction
 |.PB _,.O4 _,h=>by contradiction
theorem zO:∀{p q:PV},gM p q=I0->p=q:=by
 intro p;induction p with
 |H0=>intro q h;cases q using Q3<;>first|rfl|contradiction
 |O3 b=>intro q h;cases q using Q3 with|O3 c=>(cases b using o7<;>cases c using o7<;>first|rfl|(contradiction;done))|_=>contradiction
 |j0 i=>intro q h;cases q using Q3 with|j0 j=>rw[jP0 h]|_=>contradiction
 |Z0 m=>intro q h;cases q using Q3 with|Z0 k=>rw[M6 h]|_=>contradiction
 |EG m=>intro q h;cases q using Q3 with|EG k=>rw[M6 h]|_=>contradiction
 |B0=>intro q h;cases q using Q3<;>first|rfl|contradiction
 |A0 a r MG RA=>intro q h;cases q using Q3 with|A0 b t=>obtain⟨h1,h2⟩:=dF h;rw[MG h1,RA h2]|_=>contradiction
 |kv k v r ihv RA=>intro q h;cases q using Q3 with|kv k' b t=>obtain⟨h0,h⟩:=dF h;obtain⟨h1,h2⟩:=dF h;rw[M6 h0,ihv h1,RA h2]|_=>contradiction
 |Q0 l ih=>intro q h;cases q using Q3 with|Q0 m=>rw[ih h]|_=>contradiction
 |J0 i=>intro q h;cases q using Q3 with|J0 j=>rw[M6 h]|_=>contradiction
 |Y0 i=>intro q h;cases q using Q3 with|Y0 j=>rw[M6 h]|_=>contradiction
 |_=>intro q h;contradiction
theorem h60{o q:AO}(h:Kr o q=I0):o=q:=by
 cases o using FA<;>cases q using FA<;>first|rfl|(contradiction;done)|(rw[zO h])|(obtain⟨h1,h2⟩:=dF h;rw[M6 h1,M6 h2])
theorem i60{σ τ:K1}{k:C0}(h:ZS σ τ k=I0):∀i,i<k->CA i=τ.q8 i:=λ i hi=>h60 (cR h i hi)
theorem j60{c:PV->K1->I1}:∀{o:H7 PV},S8 c o=I0->aH (λ a s=>c a s=I0) λ _ _=>J6:=by
 intro o;induction o with
 |B9 a s=>exact λ h=>h
 |K8 i s=>intro h;contradiction
 |YG n k ih=>exact λ h d hd=>ih d (cR h d hd)
 |eJ w=>intro h;contradiction
def EI:C0->P0 Ty
 |0=>[.u8,.yE,.X]
 |n+1=>[.u8,.yE,.X]++((EI n).Y4 .Y8++(EI n).Y4 .Z8)
theorem l60{n:C0}:∀{t:Ty},DS<=n->t∈EI n:=by
 induction n with
 |K9=>
  intro t h;cases t using SG with
  |u8=>exact .J8 _
  |yE=>exact .x7 _ (.J8 _)
  |X=>exact .x7 _ (.x7 _ (.J8 _))
  |_=>exact U3 h (ii _)
 |J9 n ih=>
  intro t h;cases t using SG with
  |u8=>exact .J8 _
  |yE=>exact .x7 _ (.J8 _)
  |X=>exact .x7 _ (.x7 _ (.J8 _))
  |Y8 t=>exact UZ [jz,.yE,.X] (fT0 _ (HP ⟨t,ih (Y80 h),O⟩))
  |Z8 t=>exact UZ [jz,.yE,.X] (UZ _ (HP ⟨t,ih (Y80 h),O⟩))
theorem kP0:∀{n:C0}{t:Ty},t∈EI n->DS<=n:=by
 intro zq;induction zq with
 |K9=>
  intro t h;have h:t∈[jz,.yE,.X]:=h;simp only[uD,vD,eE]at h;rcases h with O|O|O<;>exact B8 _
 |J9 n ih=>
  intro t h;have h:t∈[jz,.yE,.X]++((EI n).Y4 .Y8++(EI n).Y4 .Z8):=h;simp only[List.mem_append,ca,uD,vD,eE]at h;rcases h with(O|O|O)|⟨u,hu,O⟩|⟨u,hu,O⟩
  ·exact VN _
  ·exact VN _
  ·exact VN _
  ·exact CK (ih hu)
  ·exact CK (ih hu)
theorem EW{E:C5}(HC:rO B n E)(X:FG G0 G ι K)(gd:J1 B A G s)(D6:O8 n A){f:C0}{L1:PV}{L5:P0 K0}(ra:A4 G0 W0 L1 L5){c:PV->K1->I1}(hr:S8 c (E.K2 (.Y0 f) L1 YW)=I0)
  (hc:∀p σ,c p σ=I0->UD 0 p=I0/\ZS σ YW K=I0){Q E':K0->D1->Prop}
  (hQ:∀v s' p σ,J1 B A G s'->A3 B N2 G s G s'->H3 G U6 p v->c p σ=I0->Q v s'):V0 R2 A (X7 (.J0 f) L5) Q E' s:=by
 refine V3 (HC (f:=.Y0 f) (fv:=.J0 f) D6 (uA0 gd) (show H3 G0 W0 (.Y0 f) (.J0 f)from O) ra _ _ (j60 hr)) ?_ λ e s' Z2=>by obtain⟨_,_,_,_,_,h⟩:=Z2;exact u4
 intro v s' Z2;obtain⟨G1,p,st,g1,rp,hp⟩:=Z2;obtain⟨h1,h2⟩:=hc p qF hp;obtain⟨g2,I2⟩:=X.sU gd st g1 (i60 h2);exact hQ v s' p qF g2 I2 ((Be h1 (RX.U2 y_)).mp rp) hp
theorem Hl(ρ:C0->H1)(τ:C0->Ty)(k:C0):FG ⟨⟨.B0,k,.B0,0,[]⟩,ρ,τ,F5⟩ G ι 0 where
 av:=O
 le:=VN _
 em:=λ i hi=>U3 hi (RG i)
 m:=O
 ne:=O
 Y0:=λ i _=>O
 q8:=λ i hi=>U3 hi (RG i)
 KT:=λ i j hi=>U3 hi (RG i)
end
section
def IZ:Y3->Y3
 |.i7 k p b=>bif Y1 k 0 then .i7 k p b else .fn p b
 |e=>e
def Ta:mI:=⟨λ a=>IZ (l7 a),TB.qA,TB.U10,TB.i7⟩
def Ra:C5:=nD HB Ta 100
def AP:K1:=⟨((be (.w7 XQ 1) 0).A9 (.W6 (.kv OY (.J0 2) (.kv PY (.J0 3) .B0))) 1),4,.B0,0,[]⟩
def Il(q p:PV)(σ:K1):I1:=bif gM p q then ZS σ AP 4 else R0
def m60(q p:PV)(σ:K1):I1:=gM p q
def FW(l:P0 Ty)(f:Ty->I1):I1:=@pL Ty (λ _=>I1) I0 (λ t _ ih=>bif f t then ih else R0) l
theorem JZ{f:Ty->I1}:∀{l:P0 Ty},FW l f=I0->∀t∈l,f t=I0:=by
 intro l;induction l with
 |B0=>exact λ _ _ h=>by contradiction
 |A0 t l ih=>
  intro h u hu;obtain⟨h1,h2⟩:=dF h;rcases kA hu with O|hu
  ·exact h1
  ·exact ih h2 u hu
theorem lP0:FW (EI 2) (λ t=>S8 (Il XF) (iR (.Y0 418) (.A0 (.J0 0) (.A0 XF .B0)) AP))=I0:=by kernel_rfl
theorem mP0:FW (EI 2) (λ t=>S8 (m60 XF) (iR (.Y0 203) (.A0 XF (.A0 (.J0 0) .B0)) ⟨.B0,1,.B0,0,[]⟩))=I0:=by kernel_rfl
theorem nP0(k:C0):FW (EI 2) (λ t=>S8 (Il (.O3 R0)) (iR (.Y0 425) (.A0 (.J0 0) (.A0 (.Q0 (.A0 (.Z0 dh) (.A0 (.j0 (.O4 k)) .B0))) (.A0 XF .B0))) AP))=I0:=by kernel_rfl
theorem oP0:FW (EI 2) (λ t=>S8 (m60 xU) (iR (.Y0 911) (.A0 XF .B0) aS))=I0:=by kernel_rfl
def Hx(p:PV)(σ:K1):I1:=match XM p with|E0 n=>bif T9 n 2000 then UD 0 p else R0|H0=>R0
theorem pP0:FW (EI 2) (λ t=>S8 Hx (iR (.Y0 229) (.A0 XF .B0) aS))=I0:=by kernel_rfl
def Ce(n:C0)(p:PV)(σ:K1):I1:=bif (EI n).K4 (λ t=>gM p XF)then ZS σ nG 1 else R0
theorem qP0:S8 (Ce 0) (iR (.Y0 904) (.A0 (.J0 0) (.A0 (.j0 0) .B0)) nG)=I0:=by kernel_rfl
theorem rP0:S8 (Ce 1) (iR (.Y0 904) (.A0 (.J0 0) (.A0 (.j0 1) .B0)) nG)=I0:=by kernel_rfl
theorem sP0:S8 (Ce 2) (iR (.Y0 904) (.A0 (.J0 0) (.A0 (.j0 2) .B0)) nG)=I0:=by kernel_rfl
end
section
section
variable{B:Bs}{A:Around}{G G0 G1:Gh}{s s':Shared}{n:Nat}
def LT.dA{α:Type}(f:C0->α->I1)(t:LT α):I1:=@xA0 α (λ _=>I1) I0 (λ k v _ _ a b=>bif f k v then(bif a then b else R0)else R0) t
theorem En{α:Type}{f:C0->α->I1}{d:α}{x:C0}:∀{t:LT α},t.dA f=I0->cX d x=d\/f x (cX d x)=I0:=by
 intro t;induction t with
 |B0=>exact λ _=> .S2 O
 |S3 k v l r il ir=>
  intro h;obtain⟨h1,h⟩:=dF h;obtain⟨h2,h3⟩:=dF h;show(@L8 (λ _=>α) (@L8 (λ _=>α) (Pg d x) (Og d x) (Y6 x k)) v (Y1 x k))=d\/f x (@L8 (λ _=>α) (@L8 (λ _=>α) (Pg d x) (Og d x) (Y6 x k)) v (Y1 x k))=I0;cases hx:Y1 x k with
  |I0=>rw[M6 hx];exact .L2 h1
  |R0=>
   cases hb:Y6 x k with
   |I0=>exact il h2
   |R0=>exact ir h3
def o60(k:C0):C0:=bif Y1 k 0 then 846 else bif Y1 k 1 then 904 else bif Y1 k 2 then 418 else bif Y1 k 3 then 203 else bif Y1 k 4 then 425 else bif Y1 k 5 then 229 else bif Y1 k 6 then 446 else bif Y1 k 7 then 911 else 582
def tP0(a:C0)(e:Y3):I1:=match e with
 |.i7 k _ _=>Y1 a (o60 k)
 |_=>I0
theorem uP0:D00 tP0=I0:=by kernel_rfl
theorem p60{a k:C0}{p:Pm}{b:S}(h:nP a=.i7 k p b):a=o60 k:=by
 rcases En (d:=b_) (x:=a) uP0 with q|q
 ·have:l7 a=.no:=q;rw[show nP a=l7 a from O,J2]at h;contradiction
 ·rw[show Si.o9 b_ a=Mn k p b from h]at q;exact M6 q
theorem vP0{a k:C0}{p:Pm}{b:S}(h:E00 a=.i7 k p b):nP a=.i7 k p b/\k=0:=by
 change IZ (l7 a)=_ at h;show l7 a=_/\_;generalize e:l7 a=zo at h;cases zo using rZ with
 |i7 k' p' b'=>
  change(bif Y1 k' 0 then Mn k' p' b' else .fn p' b')=_ at h;cases hk:Y1 k' 0 with
  |I0=>rw[hk]at h;cases h;exact⟨O,M6 hk⟩
  |R0=>rw[hk]at h;contradiction
 |_=>contradiction
section
inductive Jx:PV->Q1 C0->Prop
 |no p:Jx p H0
 |F6 i:Jx (.J0 i) (E0 i)
inductive Kx:PV->Q1 C0->Prop
 |no p:Kx p H0
 |F6 i:Kx (.ty i) (E0 i)
inductive Lx:PV->Q1 C0->Prop
 |no p:Lx p H0
 |F6 i:Lx (.wr i) (E0 i)
inductive Mx:PV->Q1 C0->Prop
 |no p:Mx p H0
 |F6 n:Mx (.j0 (.O4 n)) (E0 n)
inductive Nx:PV->Q1 (C0×PV×PV)->Prop
 |no p:Nx p H0
 |F6 k v r:Nx (.kv k v r) (E0 (k,v,r))
inductive Ox:AO->Q1 (C0×C0)->Prop
 |no o:Ox o H0
 |F6 c d:Ox (.w7 c d) (E0 (c,d))
inductive Qx:AO->Q1 PV->Prop
 |no o:Qx o H0
 |F6 l:Qx (.W6 l) (E0 l)
inductive Rx:AO->I1->Prop
 |no o:Rx o R0
 |F6:Rx .S4 I0
theorem wP0(p:PV):Jx p (YS p):=by cases p using Q3<;>first|exact .F6 _|exact .no _
theorem xP0(p:PV):Kx p (fX p):=by cases p using Q3<;>first|exact .F6 _|exact .no _
theorem wrP_sh(p:PV):Lx p (wrP p):=by cases p using Q3<;>first|exact .F6 _|exact .no _
theorem yP0(p:PV):Mx p (Yb p):=by
 cases p using Q3 with
 |j0 i=>cases i using ZL<;>first|exact .F6 _|exact .no _
 |_=>exact .no _
theorem zP0(p:PV):Nx p (Lr p):=by cases p using Q3<;>first|exact .F6 _ _ _|exact .no _
theorem iW0(o:AO):Ox o (Gz o):=by cases o using FA<;>first|exact .F6 _ _|exact .no _
theorem AQ0(o:AO):Qx o (Mr o):=by cases o using FA<;>first|exact .F6 _|exact .no _
theorem BQ0(o:AO):Rx o (fh o):=by cases o using FA<;>first|exact .F6|exact .no _
variable{p a b c r:PV}{i k:Nat}
theorem KZ(h:YS p=E0 i):p=.J0 i:=by
 have q:=wP0 p;rw[h]at q;cases q;rfl
theorem De(h:fX p=E0 i):p=.ty i:=by
 have q:=xP0 p;rw[h]at q;cases q;rfl
theorem wrP_of(h:wrP p=E0 i):p=.wr i:=by
 have q:=wrP_sh p;rw[h]at q;cases q;rfl
theorem Sx(h:Yb p=E0 i):p=.j0 (.O4 i):=by
 have q:=yP0 p;rw[h]at q;cases q;rfl
theorem CQ0(h:Lr p=E0 (k,a,r)):p=.kv k a r:=by
 have q:=zP0 p;rw[h]at q;cases q;rfl
theorem jW0{o:AO}(h:Gz o=E0 (k,i)):o=.w7 k i:=by
 have q:=iW0 o;rw[h]at q;cases q;rfl
theorem DQ0{o:AO}(h:Mr o=E0 p):o=.W6 p:=by
 have q:=AQ0 o;rw[h]at q;cases q;rfl
theorem q60{o:AO}(h:fh o=I0):o=.S4:=by
 have q:=BQ0 o;rw[h]at q;cases q;rfl
theorem BK{α:Type}{b:I1}{x:Q1 α}{y:α}(h:(bif b then x else H0)=E0 y):b=I0/\x=E0 y:=by
 cases b using o7 with
 |I0=>exact⟨O,h⟩
 |R0=>contradiction
theorem Ux(h:a1 p=E0 a):p=.A0 a .B0:=by
 obtain⟨⟨x,y⟩,hx,h⟩:=q9 h;obtain⟨h1,h2⟩:=BK h;obtain O:=I3 h2;rw[MQ hx,show y=_ from HV h1]
theorem GW(h:a2 p=E0 (a,b)):p=.A0 a (.A0 b .B0):=by
 obtain⟨⟨x,y⟩,hx,h⟩:=q9 h;obtain⟨z,hy,h⟩:=DR h;obtain⟨O,O⟩:=uZ h;rw[MQ hx,show y=_ from Ux hy]
theorem EQ0(h:a3 p=E0 (a,b,c)):p=.A0 a (.A0 b (.A0 c .B0)):=by
 obtain⟨⟨x,y⟩,hx,h⟩:=q9 h;obtain⟨z,hy,h⟩:=DR h;obtain⟨O,O⟩:=uZ h;rw[MQ hx,show y=_ from GW hy]
theorem r60{x:C0}(h:Nr x p=E0 (i,r)):p=.kv x (.J0 i) r:=by
 obtain⟨⟨q1,q2,q3⟩,hq,h⟩:=q9 h;obtain⟨h1,h2⟩:=BK h;obtain⟨j,hj,h⟩:=DR h2;obtain⟨O,O⟩:=uZ h;rw[CQ0 hq,show q2=_ from KZ hj,show q1=x from M6 h1]
theorem s60{σ:K1}{o:AO}(h:Pr XQ σ o=I0):∃d x y,o=.w7 XQ d/\CA d=.W6 (.kv OY (.J0 x) (.kv PY (.J0 y) .B0)):=by
 symm;obtain⟨d,h⟩:=CT0 h;obtain⟨⟨c,d'⟩,hx,h⟩:=q9 h;obtain⟨h1,h⟩:=BK h;obtain⟨l,hl,h⟩:=q9 h;obtain⟨⟨x,l2⟩,hq,h⟩:=q9 h;obtain⟨⟨y,l3⟩,hr,h⟩:=q9 h;obtain⟨h2,_⟩:=BK h;have e2:l2=_:=r60 hr;have e3:l3=_:=HV h2;ext;exact⟨d',x,y,by rw[jW0 hx,show c=XQ from M6 h1],by rw[show CA d'=_ from DQ0 hl,r60 hq,e2,e3]⟩
end
def LZ(a d x y:C0):C0->C0
 |0=>a|1=>d|2=>x|_=>y
theorem t60(i:C0):c_ i=if i=1 then .W6 (.kv OY (.J0 2) (.kv PY (.J0 3) .B0))else if i=0 then .w7 XQ 1 else .K4:=by
 show((be (.w7 XQ 1) 0).A9 (.W6 (.kv OY (.J0 2) (.kv PY (.J0 3) .B0))) 1).o9 i=_;rw[MH,MH];rfl
theorem Jl{i:C0}(h:i<4):i=0\/i=1\/i=2\/i=3:=by exact ω18 _ ‹_›
theorem u60(gd:J1 B A G s){a d x y:C0}(ha:a<J3)(h1:P3 a=.w7 XQ d)(h2:P3 d=.W6 (.kv OY (.J0 x) (.kv PY (.J0 y) .B0))):FG ⟨AP,λ i=>Y2 (LZ a d x y i),J5,F5⟩ G (LZ a d x y) 4:=by
 symm;have ob:=cL a ha;rw[h1]at ob;have hd:=ob.2;have od:=cL d hd;rw[h2]at od;obtain⟨V2,o,e,hc,hn,nd,r⟩:=od;obtain⟨x1,u1,q1,_,_,_,hx,r⟩:=r;obtain⟨x2,u2,q2,_,_,_,hy,_⟩:=r;ext;refine{av:=O,le:=B8 _,em:=λ i hi=>⟨?_,O⟩,m:=O,ne:=O,Y0:=λ i hi=>?_,q8:=λ i hi=>?_,KT:=λ i j hi hj ni nj e=>?_}
 ·rcases Jl hi with O|O|O|O
  ·exact ha
  ·exact hd
  ·exact hx.1
  ·exact hy.1
 ·show c_ i=_;rw[t60,w3 (by omega),w3 (by omega)]
 ·show c_ i=_\/(SQ AP 4 (c_ i)=_/\_=NV _ (c_ i));rcases Jl hi with O|O|O|O
  ·right;exact⟨by rfl,h1⟩
  ·right;exact⟨by rfl,h2⟩
  ·left;rfl
  ·left;rfl
 ·symm;have ni:c_ i≠.K4:=ni;have nj:c_ j≠.K4:=nj;rw[t60]at ni nj;ext;rcases Jl hi with O|O|O|O<;>rcases Jl hj with O|O|O|O<;>first|rfl|exact U3 O ni|exact U3 O nj|skip
  ·have e:a=d:=e;rw[e,h2]at h1;contradiction
  ·have e:d=a:=e;rw[e,h1]at h2;contradiction
theorem v60(gd:J1 B A G s){a d x y:C0}{v:K0}(r:H3 G W0 (.J0 a) v):H3 ⟨AP,λ i=>Y2 (LZ a d x y i),J5,F5⟩ W0 (.J0 0) v:=⟨(by show 0<4;decide),r.2⟩
theorem w60{q p:PV}{σ:K1}(hq:UD 0 q=I0)(h:Il q p σ=I0):UD 0 p=I0/\ZS σ AP 4=I0:=by
 obtain⟨h1,h2⟩:=dF h;rw[zO h1];exact⟨hq,h2⟩
theorem x60{q p:PV}{σ:K1}(h:Il q p σ=I0):p=q:=zO (dF h).1
theorem O8.le{n m:C0}(x:O8 m A)(h:n<=m):O8 n A:=⟨C10,by have:=To;exact ω59 ‹_› ‹_›,by have:=So;exact ω37 ‹_› ‹_›⟩
theorem FQ0{p:PV}{h:O1}{v:K0}(q:b20 p=I0)(r:H3 G h p v):∃c,v=.J0 c:=by
 cases p using Q3 with
 |Y0 a=>exact⟨a,r⟩
 |J0 j=>exact⟨_,r.2⟩
 |_=>exact U3 q PG
theorem Fe(gd:J1 B A G s){i:C0}{v:K0}(r:H3 G W0 (.ty i) v)(zQ:gz=F5):i<UB/\J5 i∈EI 2/\H3 G0 W0 (J5 i).p v:=by
 obtain⟨hi,r⟩:=iP0.mp r;exact⟨hi,l60 (kz.iI i hi),(Be (HX _) zQ).C8 r⟩
section
variable{P:PV->K1->Prop}{X:Nat->K1->Prop}{args:PV}{vals:List Value}{o:Out PV}(HC:rO B 110 Ra)(room:O8 110 A)(gd:Good B A G s)(ra:A4 G s.heap args vals)
include HC room gd ra
theorem GQ0(ho:e20 XQ L1 R1=E0 o)(M0:aH P X):V0 R2 A (X7 (.J0 418) L5) (Po B RV N2 A G s P) (Px B N2 A G s X) s:=by
 symm;obtain⟨⟨q1,q2⟩,e1,ho⟩:=q9 ho;obtain⟨a,e2,ho⟩:=q9 ho;obtain⟨i,e3,ho⟩:=q9 ho;obtain⟨hi,ho⟩:=BK ho;obtain O:=I3 ho;obtain O:=KZ e2;obtain O:=De e3;obtain O:=GW e1;obtain⟨d,x,y,h1,h2⟩:=s60 hi;obtain⟨v1,l1,O,r1,v2,l2,O,r2,O⟩:=ra;have S:=u60 gd r1.1 h1 h2;obtain⟨hi,ht,r3⟩:=Fe (G0:=⟨AP,λ j=>Y2 (LZ a d x y j),J5,F5⟩) gd r2 O;ext;exact EW (L1:=.A0 (.J0 0) (.A0 (J5 i).p .B0)) HC S gd D6 ⟨_,_,O,v60 gd r1,_,_,O,r3,O⟩ (JZ lP0 _ ht) (λ p σ h=>w60 (HX _) h) λ v s' p σ g2 I2 rp hc=>by
  rw[x60 hc]at rp;exact .at (R:=RV) (a:=.ty i) I2 g2 (F00 ⟨hi,rp⟩) M0
theorem HQ0(ho:g20 XQ L1 R1=E0 o)(M0:aH P X):V0 R2 A (X7 (.J0 425) L5) (Po B RV N2 A G s P) (Px B N2 A G s X) s:=by
 symm;obtain⟨⟨q1,q2,q3⟩,e1,ho⟩:=q9 ho;obtain⟨a,e2,ho⟩:=q9 ho;obtain⟨l,e3,ho⟩:=q9 ho;obtain⟨⟨x1,x2⟩,e4,ho⟩:=q9 ho;obtain⟨v,e5,ho⟩:=q9 ho;obtain⟨k,e6,ho⟩:=q9 ho;obtain⟨i,e7,ho⟩:=q9 ho;obtain⟨hi,ho⟩:=BK ho;obtain⟨hv,ho⟩:=BK ho;obtain O:=I3 ho;obtain O:=Qh e5;obtain O:=Sx e6;obtain O:=GW e4;obtain O:=KZ e2;obtain O:=E20 e3;obtain O:=De e7;obtain O:=EQ0 e1;rw[M6 hv]at ra;obtain⟨d,x,y,h1,h2⟩:=s60 hi;obtain⟨v1,l1,O,r1,v3,l3,O,r3,v2,l2,O,r2,O⟩:=ra;have S:=u60 gd r1.1 h1 h2;obtain⟨hi,ht,r4⟩:=Fe (G0:=⟨AP,λ j=>Y2 (LZ a d x y j),J5,F5⟩) gd r2 O;have r5:=(Be (G0:=⟨AP,λ j=>Y2 (LZ a d x y j),J5,F5⟩) (p:=.Q0 (.A0 (.Z0 dh) (.A0 (.j0 (.O4 k)) .B0))) (h:=W0) (v:=v3) O O).C8 r3;ext;exact EW (L1:=.A0 (.J0 0) (.A0 (.Q0 (.A0 (.Z0 dh) (.A0 (.j0 (.O4 k)) .B0))) (.A0 (J5 i).p .B0))) HC S gd D6 ⟨_,_,O,v60 gd r1,_,_,O,r5,_,_,O,r4,O⟩ (JZ (nP0 k) _ ht) (λ p σ h=>w60 O h) λ w s' p σ g2 I2 rp hc=>by
  rw[x60 hc]at rp;exact .at (R:=RV) (a:=.O3 R0) I2 g2 rp M0
theorem IQ0(ho:f20 L1 R1=E0 o)(M0:aH P X):V0 R2 A (X7 (.J0 203) L5) (Po B RV N2 A G s P) (Px B N2 A G s X) s:=by
 have U7:∀{i:C0}{v1:K0}{c:H1},H3 G W0 (.ty i) v1->P (.ty i) R1->V0 R2 A (X7 (.J0 203) [v1,.J0 c]) (Po B RV N2 A G s P) (Px B N2 A G s X) s:=λ{i v1 c} r1 hP=>by
  have S:=Hl (G:=G) (ι:=λ i=>i) (λ _=>c) J5 1;obtain⟨hi,ht,r3⟩:=Fe (G0:=⟨⟨.B0,1,.B0,0,[]⟩,λ _=>c,J5,F5⟩) gd r1 O;exact EW (L1:=.A0 (J5 i).p (.A0 (.J0 0) .B0)) HC S gd D6 ⟨_,_,O,r3,_,_,O,⟨gU0,O⟩,O⟩ (JZ mP0 _ ht) (λ p σ h=>⟨by rw[zO h];exact HX _,O⟩) λ v s' p σ g2 I2 rp hc=>by
   rw[zO hc]at rp;exact .at (R:=RV) (a:=.ty i) I2 g2 (F00 ⟨hi,rp⟩) hP
 obtain⟨⟨q1,q2⟩,e1,ho⟩:=q9 ho;obtain⟨i,e2,ho⟩:=q9 ho;obtain⟨h1,ho⟩:=BK ho;obtain O:=I3 ho;obtain O:=De e2;obtain O:=GW e1;obtain⟨v1,l1,O,r1,v2,l2,O,r2,O⟩:=ra;obtain⟨c,O⟩:=FQ0 h1 r2;exact U7 r1 M0
theorem JQ0(ho:h20 L1 R1=E0 o)(M0:aH P X):V0 R2 A (X7 (.J0 229) L5) (Po B RV N2 A G s P) (Px B N2 A G s X) s:=by
 obtain⟨q1,e1,ho⟩:=q9 ho;obtain⟨i,e2,ho⟩:=q9 ho;obtain O:=I3 ho;obtain O:=De e2;obtain O:=Ux e1;obtain⟨v1,l1,O,r1,O⟩:=ra;have S:=Hl (G:=G) (ι:=λ i=>i) (λ _=>0) J5 0;obtain⟨hi,ht,r3⟩:=Fe (G0:=⟨aS,λ _=>0,J5,F5⟩) gd r1 O;refine EW (L1:=.A0 (J5 i).p .B0) HC S gd D6 ⟨_,_,O,r3,O⟩ (JZ pP0 _ ht) (λ p σ h=>?_) λ v s' p σ g2 I2 rp hc=>?_
 ·unfold Hx at h;generalize XM p=r at h;cases r using i9 with
  |H0=>contradiction
  |E0 m=>exact⟨(dF h).2,O⟩
 ·unfold Hx at hc;generalize hm:XM p=r at hc;cases r using i9 with
  |H0=>contradiction
  |E0 m=>
   obtain⟨x,t,O,hl⟩:=Nj rp hm;exact .at (R:=RV) (a:=.EG 2000) I2 g2 ⟨_,_,O,X6 hl (u6 (dF hc).1)⟩ M0
theorem KQ0(ho:i20 L1 R1=E0 o)(M0:aH P X):V0 R2 A (X7 (.J0 911) L5) (Po B RV N2 A G s P) (Px B N2 A G s X) s:=by
 symm;obtain⟨q1,e1,ho⟩:=q9 ho;obtain⟨i,e2,ho⟩:=q9 ho;obtain O:=I3 ho;obtain O:=De e2;obtain O:=Ux e1;obtain⟨v1,l1,O,r1,O⟩:=ra;have S:=Hl (G:=G) (ι:=λ i=>i) (λ _=>0) J5 0;obtain⟨hi,ht,r3⟩:=Fe (G0:=⟨aS,λ _=>0,J5,F5⟩) gd r1 O;ext;exact EW (L1:=.A0 (J5 i).p .B0) HC S gd D6 ⟨_,_,O,r3,O⟩ (JZ oP0 _ ht) (λ p σ h=>⟨by rw[zO h];exact iz _,O⟩) λ v s' p σ g2 I2 rp hc=>by
  rw[zO hc]at rp;exact .at (R:=RV) (a:=.wr i) I2 g2 (g60.C8 ⟨hi,rp⟩) M0
end
end
end
section
variable{B:Bs}{A:Around}{G G0 G1 G2:Gh}{s s':Shared}{F:Addr->Prop}{n:Nat}
variable{g:Nat->Option PV}{cl:Nat->Nat}{cenv:Env}{L:Kinds}{env:PV}{ih:C5}{T:Tab}{FZ:Nat->Bool}
def Vx(o o':AO):Prop:=o'=o\/(o=.S4/\∃a b,o'=.M1 (.A0 (.j0 a) (.A0 (.j0 b) .B0)))
theorem Vx.K4{o o':AO}(h:Vx o o'):o=.K4↔o'=.K4:=by
 rcases h with O|⟨O,a,b,O⟩
 ·exact tF
 ·exact⟨λ q=>(by contradiction),λ q=>(by contradiction)⟩
theorem fB0(gd:J1 B A G s)(g2:J1 B A G2 s')(st:A3 B F G s G2 s')(hn:Xo=J3)(hm:XR.m=UB)(E8:∀j,Vx (P3 j) (zn j)):J1 B A G s'/\A3 B F G s G s':=by
 symm;have le:G2.Le G:=⟨MP hn,λ i hi=>(j_ i (hn▸hi)).Z3,RX.Z3,MP hm,λ i hi=>(st.TX i (hm▸hi)).Z3⟩;have v9:∀b,w9 G2 b->w9 G b:=λ b zz=>nU zz λ i hi ha e=>⟨i,hn▸hi,λ q=>ha ((E8 i).K4.mp q),(j_ i (hn▸hi)).Z3.U2 e⟩;ext;refine⟨⟨kz,⟨gd.pp,λ i hi=>?_,gd.inv.big,gd.XS0,by rw[<-RX];exact g2.E80⟩,kU,g2.NG,g2.fr⟩,⟨Pf,.M5 G,λ b x=> .S2 x,mf,MX,JX,DX⟩⟩;symm;have ob:=g2.ip i (hn.Z3▸hi);rw[j_ i hi]at ob;rcases E8 i with q|⟨q,a,b,q2⟩
 ·rw[q]at ob;ext;refine ob.E5 le (λ _ _ _ _ e=>e) (.M5 _) (λ _ e=>e) λ d l hd e=>?_;rcases E8 d with z|⟨z,a,b,z2⟩
  ·exact⟨l,z▸e⟩
  ·rw[z2]at e;contradiction
 ·rw[q2]at ob;ext;rw[q];symm;obtain⟨vs,k,e,v1,l1,O,⟨t,O⟩,v2,l2,O,⟨u,O⟩,e3⟩:=ob;have e3:l2=[]:=e3;subst e3;ext;exact⟨a,t,b,u,k,e⟩
theorem J1.LQ0(gd:J1 B A G s){i:C0}(hi:i<J3)(h:P3 i=.S4):∃x y,J1 B A (gI i (.M1 (.A0 (.j0 x) (.A0 (.j0 y) .B0)))) s/\A3 B N2 G s (gI i (.M1 (.A0 (.j0 x) (.A0 (.j0 y) .B0)))) s:=by
 have ob:=cL i hi;rw[h]at ob;obtain⟨x,t,y,u,k,e⟩:=ob;exact⟨x,y,vz (h':=W0) (tk:=X4) hi (by rw[h];simp -w4) (by simp -w4) (λ l q=>by rw[h]at q;contradiction) (λ b o _ e=>e) ⟨_,k,e,_,_,O,⟨t,O⟩,_,_,O,⟨u,O⟩,O⟩⟩
def S9(B:Bs)(A:C6)(N0:o6)(G:Gh)(O0:PV)(e:C1)(i:B2):Prop:=
 ∀(s:D1)(E:K0->D1->Prop),J1 B A G s->V5 B N0 D0 O0 G W0->V0 R2 A (Q5 e N0) (λ v s'=>(∃t,v=.j0 i t)/\A3 B N2 G s G s'/\J1 B A G s') E s
theorem HF{i:B2}{j:C0}{p:T3}:S9 B A N0 G O0 (.H8 (.j0 i) j p) i:=λ s E gd er=>zi ⟨⟨_,O⟩,(NJ _).2,(NJ _).1⟩
theorem FJ(ES:n9 N0 L){x:u0}{p:T3}{i:B2}(hn:A5 x=I0)(hl:n7 L x=I0)(hv:I4 (vc x) O0=E0 (.j0 i)):S9 B A N0 G O0 (.u3 x p) i:=
 λ s E gd er=>uI ES er hn hl hv λ u zz=>DM zz λ t e=>⟨⟨t,e⟩,.M5 ..,gd⟩
theorem tD{op:C_}{l r:C1}{p:T3}{a b c:B2}(hl:S9 B A N0 G O0 l a)(hr:S9 B A N0 G O0 r b)
  (sX:∀(s:D1)(t u:P6)(Q E:K0->D1->Prop),Q (.j0 c X4) {s with B4:=X4+1}->V0 R2 A (Mm op (.j0 a t) (.j0 b u)) Q E s):S9 B A N0 G O0 (.Q_ l op r p) c:=λ s E gd er=>
 JV0 (V3 (hl s E gd er) (λ v s1 ⟨⟨t,e⟩,C2,g1⟩=>by
  subst e;exact V3 (hr s1 E g1 (HI C2)) (λ w s2 ⟨⟨u,e⟩,I2,g2⟩=>by
   subst e;exact sX s2 _ _ _ _ ⟨⟨_,O⟩,(FC I2).U2 (d00 _).2,(d00 _).1⟩) λ _ _ h=>h) λ _ _ h=>h)
theorem rT(BF:S7 B g)(ES:n9 N0 L)(TA:VF "int"=H0/\UJ "int"=E0 (.U0 "int"))(hg:E7 L "int"=I0){a:C1}(ha:Q8 a=I0){i:B2}{p q:T3}(h:S9 B A N0 G O0 a i):S9 B A N0 G O0 (.C7 (.u3 "int" p) [a] [] q) i:=λ s E gd er=>by
 refine mM (jV BF ES gd TA hg (by decide) ?_);have E4:[a].dA Q8=I0:=by simp -w4 [ha]
 refine AJ (by rw[IL E4];rfl) (BJ E4 ?_);rw[zI ha];exact zD (V3 (h s E gd er) (λ v s1 ⟨⟨t,e⟩,C2,g1⟩=>by
  subst e;exact JJ ⟨GN,call_int_int ⟨⟨_,O⟩,C2,g1⟩⟩) λ _ _ h=>h)
theorem MZ(ES:n9 N0 L){x:u0}{p1 p2 p3:T3}{c:C0}{i:C0}{l:PV}{j z:B2}(hn:A5 x=I0)(hl:n7 L x=I0)(hv:I4 (vc x) O0=E0 (.J0 i))(E8:P3 i=.M1 l)(hz:RS l j=E0 (.j0 z)):
  S9 B A N0 G O0 (.BD (.u3 x p1) (.H8 (.j0 j) c p2) p3) z:=λ s E gd er=>by
 refine lY (uI ES er hn hl hv λ u ru=>zi ?_);obtain⟨g1,C2⟩:=NJ (X4+1);obtain⟨T',id,i1,i2,i3⟩:=Hu (F:=N2) (o:=.J0 i) (i:=.j0 j) g1 (SK C2) ⟨_,O⟩ (P:=λ p σ=>p=.j0 z/\σ=R1) (X:=λ _ _=>J6) (by
  show(y5 27 (zp (.j0 j) (P3 i)) R1).P1 _ _;rw[E8];show(y5 27 (RS l j) R1).P1 _ _;rw[hz];exact⟨O,O⟩)
 refine⟨T',id,i1,i2,V3 i3 ?_ λ _ _ Z2=>by obtain⟨_,_,_,_,_,h⟩:=Z2;exact u4⟩;intro v s2 Z2;obtain⟨G2,a,I2,g2,rv,e1,e2⟩:=Z2;subst e1;obtain⟨g3,U5⟩:=fB0 g1 g2 I2 (by rw[e2]) (by rw[e2]) λ j=> .S2 (by rw[e2]);exact⟨rv,FC U5,g3⟩
theorem Kl(CT:aD B T)(ON:AF)(HE:z7 B g cl n ih)(X:G5 B n A N0 L O0 G s){t e:C1}{i:B2}{J4:P0 P5}{D2:T3}{k:C0}(h1:dM t e=I0)(h2:mG (cF t)=I0)(h3:uK t e=I0)(hq:∀Y5 gs sc p,e≠.QB Y5 gs sc p)(ev:S9 B A N0 G O0 e i)
  {P:PV->K1->Prop}{KO:OJ->D1->Prop}{OG:K0->D1->Prop}(M0:(aC FZ T ih (cT L (cE g cl k L) t) (.j0 i) O0 R1).P1 P λ _ _=>J6)
  (hK:∀G2 V8 s2,A3 B (D5 N0 L) G s G2 s2->J1 B A G2 s2->V5 B N0 D0 V8 G2 TN->P V8 XR->V0 R2 A (mC J4 N0) KO OG s2):V0 R2 A (mC (.PF [t] e D2::J4) N0) KO OG s:=by
 refine AB ?_;refine S0 (BB ?_);rcases yv (N0:=N0) (YH:=i_) h1 with q|⟨q,⟨Y5,gs,sc,p2,O⟩,_⟩
 ·rw[q];refine S0 (E2 ?_);refine SI PG ?_;refine S0 (V3 (ev s OG ZB VR) ?_ λ _ _ h=>h);intro v s1 Z2;obtain⟨⟨u,ev⟩,C2,g1⟩:=Z2;subst ev;refine V3 (Pk CT ON HE (KC C2 g1) h3 h2 (p:=.j0 i) ⟨u,O⟩ M0) ?_ λ _ _ Z2=>by obtain⟨_,_,_,_,_,h⟩:=Z2;exact u4
  intro f s2 Z2;obtain⟨hf,G2,V8,I2,g2,R6,hp⟩:=Z2;subst hf;exact hK G2 V8 s2 ((iC λ _ q=>Q6).U2 I2) g2 R6 hp
 ·exact U3 O (hq _ _ _ _)
end
section
section
variable{B:Bs}{A:Around}{G G0 G1 G2:Gh}{s s':Shared}{F:Addr->Prop}{n:Nat}
def y60:P0 P5:=[.If (eQ .Gt (eS (eN "source" 733 7 13) (eI 0 733 14 15) 733 7 16) (eI 0 733 19 20) 733 7 20) [.PF [(eN "drawn" 734 8 13)] (eO .tX (eC (eN "int" 734 16 19) [(eS (eN "source" 734 20 26) (eI 0 734 27 28) 734 20 29)] 734 16 30) (eN "top" 734 33 36) 734 16 36) ⟨734,8,734,36⟩,.PF [(eS (eN "source" 735 8 14) (eI 0 735 15 16) 735 8 17)] (eO .PA0 (eS (eN "source" 735 20 26) (eI 0 735 27 28) 735 20 29) (eN "top" 735 33 36) 735 20 36) ⟨735,8,735,36⟩,.WK (E0 (eN "drawn" 736 15 20)) ⟨736,8,736,20⟩] [] ⟨733,4,736,20⟩,
 .PF [(eS (eN "source" 737 4 10) (eI 1 737 11 12) 737 4 13)] (eO .tX (eC (eN "int" 737 16 19) [(eO .wU (eO .tP (eS (eN "source" 737 20 26) (eI 1 737 27 28) 737 20 29) (eI 39373 737 32 37) 737 20 37) (eI 7 737 40 41) 737 20 41)] 737 16 42) (eI 2147483647 737 45 55) 737 16 55) ⟨737,4,737,55⟩,
 .WK (E0 (eO .tX (eC (eN "int" 738 11 14) [(eO .PA0 (eO .tX (eC (eN "int" 738 15 18) [(eO .tP (eS (eN "source" 738 19 25) (eI 1 738 26 27) 738 19 28) (eS (eN "source" 738 31 37) (eI 1 738 38 39) 738 31 40) 738 19 40)] 738 15 41) (eI 2147483629 738 44 54) 738 15 54) (eI 32 738 58 60) 738 15 60)] 738 11 61) (eN "top" 738 64 67) 738 11 67)) ⟨738,4,738,67⟩]
theorem MQ0:H.fB (pU 72)=y60:=by kernel_rfl
def Ge:Y3->Y3
 |.i7 _ p b=> .fn p b
 |e=>e
def Tz:mI:=⟨λ a=>Ge (l7 a),TB.qA,TB.U10,TB.i7⟩
theorem NQ0{T T':mI}(h:∀a k,d_ a=.O2 k↔UF a=.O2 k){c:C0}(hc:Y9 T' c=I0):Y9 T c=I0:=by
 unfold Y9 at hc ⊢;generalize e:d_ c=t at hc;cases t using rZ with
 |O2 k=>rw[(h c k).mp e];exact hc
 |_=>contradiction
section
variable{g:Nat->Option PV}{cl:Nat->Nat}{T T':Tab}
def ZE.MO(XB:ZE B T)(h:∀a k,d_ a=.O2 k↔UF a=.O2 k):ZE B T':=⟨XB.l,λ c hc=>UU c (NQ0 h hc),FX⟩
def AK.MO{BF:S7 B g}{XB:ZE B T}(XI:AK BF cl XB)(h:∀a k,d_ a=.O2 k↔UF a=.O2 k):AK BF cl (XB.MO h):=
 ⟨tA0,XI.Bw,XI.p,XI.b,LJ,XI.pm,XI.P4,XI.Cw,XI.kN0,XI.Dw,XI.Ew,XI.K8⟩
def VM.MO(X:VM B g cl T)(h:∀a k,d_ a=.O2 k↔UF a=.O2 k)(hf:∀a p b,(d_ a=.fn p b\/∃k,d_ a=.i7 k p b)->(UF a=.fn p b\/∃k,UF a=.i7 k p b)):VM B g cl T':=
 ⟨DO,X.MB,X.XB.MO h,X.XI.MO h,λ c k e=>w_ c k ((h c k).mp e),Do,λ a p b e=>X.FT a p b (hf a p b e),X.LB⟩
end
theorem z60(a:C0)(k:Cl):JB0 a=.O2 k↔nP a=.O2 k:=by
 show Ge (l7 a)=_↔l7 a=_;cases l7 a using rZ with
 |i7 _ p b=>show KB0 p b=_↔_;simp
 |_=>exact tF
theorem OQ0(a:C0)(k:Cl):E00 a=.O2 k↔nP a=.O2 k:=by
 show IZ (l7 a)=_↔l7 a=_;cases l7 a using rZ with
 |i7 k' p b=>show(bif Y1 k' 0 then Mn k' p b else .fn p b)=_↔_;cases Y1 k' 0<;>simp
 |_=>exact tF
theorem A70(a:C0)(p:Pm)(b:S)(h:JB0 a=.fn p b\/∃k,JB0 a=.i7 k p b):nP a=.fn p b\/∃k,nP a=.i7 k p b:=by
 change Ge (l7 a)=_\/∃k,Ge (l7 a)=_ at h;show l7 a=_\/∃k,l7 a=_;generalize l7 a=x at h ⊢;cases x using rZ with
 |i7 k' p' b'=>
  have h:KB0 p' b'=.fn p b\/∃k,KB0 p' b'=.i7 k p b:=h;simp at h ⊢;exact h
 |_=>exact h
theorem PQ0(a:C0)(p:Pm)(b:S)(h:E00 a=.fn p b\/∃k,E00 a=.i7 k p b):nP a=.fn p b\/∃k,nP a=.i7 k p b:=by
 change IZ (l7 a)=_\/∃k,IZ (l7 a)=_ at h;show l7 a=_\/∃k,l7 a=_;cases e:l7 a with
 |i7 k' p' b'=>
  rw[e]at h;change(bif Y1 k' 0 then Mn k' p' b' else .fn p' b')=_\/∃k,(bif Y1 k' 0 then Mn k' p' b' else .fn p' b')=_ at h;cases hk:Y1 k' 0<;>rw[hk]at h<;>simp at h ⊢<;>exact h
 |_=>rw[e]at h;exact h
theorem QQ0(X:VM B gF cl TB)(m:C0):Lv B gF cl m (nD HB Tz m):=
 gk (X.MO z60 A70) 0 (λ m A G s a k p b L1 L5 o P Q h=>by
  change Ge (l7 a)=_ at h;cases e:l7 a<;>rw[e]at h<;>contradiction) (λ LV=>Ex DO LV) (λ n=>Fx n) m
structure Ie(X:VM B gF cl TB)where
 VJ:jQ B gF cl 846 (.N1 BC (.N1 YV .B0)) Ri
 RQ0:VJ.P4=H.fB (pU 72)
 B70:VJ.GT=en (pU 72)
 j0:X.VF "int"=H0/\X.UJ "int"=E0 (.U0 "int")
def FI:z5:=(en (pU 72)).y7
theorem n72:(A5 "source"&&n7 FI "source"&&A5 "top"&&n7 FI "top"&&A5 "drawn"&&n7 FI "drawn"&&z6 FI "drawn"&&E7 FI "int")=I0:=by kernel_rfl
theorem v72:BC=vc "source"/\YV=vc "top"/\vc "source"≠vc "top"/\vc "source"≠vc "drawn":=by
 refine⟨by kernel_rfl,by kernel_rfl,by decide +F7,by decide +F7⟩
theorem HW{a b:B2}(h:0<=b)(h2:b<2^63):kW0 a b:=kW0.of_right (intBits_le_64 (by omega) (by omega))
theorem Wx{a:B2}{n:C0}(h:0<n):∃d:C0,d<n/\qy (n:B2)=GA d:=by
 have h1:0<=qy (n:B2):=B2.fmod_nonneg_of_pos _ (by exact vT0 ‹_›);have h2:qy (n:B2)<n:=B2.fmod_lt_of_pos _ (by exact vT0 ‹_›);exact⟨(qy n).qR,by omega,by rw[VZ];omega⟩
end
end
section
variable{B:Bs}{A:Around}{G G0 G1 G2:Gh}{s s':Shared}{F:Addr->Prop}{n:Nat}
noncomputable abbrev NL(i n:C0):PV:=.kv (vc "source") (.J0 i) (.kv (vc "top") (.j0 (.O4 n)) .B0)
noncomputable abbrev HQ(x y:B2):AO:=.M1 (.A0 (.j0 x) (.A0 (.j0 y) .B0))
theorem C70{L:z5}{m:C0}{l c d l2 c2 d2 l3 c3 d3:C0}{σ:K1}{O0:PV}{i:C0}{x y z:B2}{j:C0}(hn:(A5 "source"&&n7 L "source")=I0)(hv:I4 (vc "source") O0=E0 (.J0 i))(E8:CA i=HQ x y)(hj:j=0\/j=1){P:PV->K1->Prop}
  (hP:P O0 (dU i (if j=0 then HQ z y else HQ x z))):(aC HB Tz (nD HB Tz (m+1)) (cT L (cE gF cl 1 L) (eS (eN "source" l c d) (eI j l2 c2 d2) l3 c3 d3)) (.j0 z) O0 σ).P1 P λ _ _=>J6:=by
 have h1:cE gF cl 1 L (eN "source" l c d)=.F0 (vc "source"):=by
  show NQ gF L "source"=_;unfold NQ;have:=yO hn;rw[J2.1,J2.2];rfl
 show(F1 ((nD HB Tz (m+1)).B6 (cE gF cl 1 L (eN "source" l c d)) O0) (λ ov=>F1 ((nD HB Tz (m+1)).B6 (.v0 (.j0 j)) O0) λ iv=>F1 (rc HB ov iv (.j0 z)) λ _=>W1 O0) σ).P1 _ _;rw[h1];show(F1 (y5 73 (I4 (vc "source") O0)) (λ ov=>F1 (W1 (.j0 j)) λ iv=>F1 (rc HB ov iv (.j0 z)) λ _=>W1 O0) σ).P1 _ _;rw[hv];show(F1 (F1 (y5 30 (Aq (.j0 j) (.j0 z) (CA i))) (λ x=>ME HB i x)) (λ _=>W1 O0) σ).P1 _ _;rw[E8];rcases hj with O|O<;>exact hP
theorem D70(X:VM B gF cl TB)(LF:Ie X)(m:C0):qd B Ta (m+11):=by
 intro A G s a k p b L1 L5 o P Q he D6 gd ra ho M0;symm;obtain⟨he,O⟩:=vP0 he;have ha:a=846:=p60 he;subst ha;have h0:nP 846=.i7 0 (.N1 BC (.N1 YV .B0)) Ri:=by kernel_rfl
 ext;rw[h0]at he;cases he;symm;have LV:=QQ0 X 4;have Xz:=X.MO z60 A70;change c20 L1 R1=E0 o at ho;obtain⟨⟨q1,q2⟩,e1,ho⟩:=q9 ho;obtain⟨i,e2,ho⟩:=q9 ho;obtain⟨nn,e3,ho⟩:=q9 ho;obtain⟨KL,ho⟩:=BK ho;cases hn0:Y1 nn 0 with
 |I0=>
  ext;rw[hn0]at ho;contradiction
 |R0=>
  rw[hn0]at ho;obtain⟨hn6,ho⟩:=BK ho;obtain O:=I3 ho;have KL:=q60 KL;obtain O:=KZ e2;obtain O:=Sx e3;obtain O:=GW e1;have hn6:=u6 hn6;have hnp:0<nn:=C0.pos_of_ne_zero (tA hn0);ext;have hi:i<J3:=by obtain⟨_,_,_,r1,_⟩:=ra;exact r1.1
  refine Pj DO LF.VJ D6 gd ra (O0:=.kv BC (.J0 i) (.kv YV (.j0 (.O4 nn)) .B0)) O λ{A' N0 s0} yL ES g0 er vO=>?_;rw[LF.RQ0,MQ0,LF.B70];symm;rw[LF.B70]at ES;change wG A' N0 FI at ES;ext;change V0 R2 A' (mC y60 N0) (Po B (YE B N0) (D5 N0 FI) A' G s0 _) (Px B (D5 N0 FI) A' G s0 Q) s0;symm;obtain⟨n1,n2,n3,n4⟩:=v72;change V5 B N0 D0 (.kv BC (.J0 i) (.kv YV (.j0 (.O4 nn)) .B0)) G gB0 at er;rw[n1,n2]at er;have hN:=n72;simp only[N5]at hN;obtain⟨⟨⟨⟨⟨⟨⟨o1,l1⟩,o2⟩,l2⟩,o3⟩,l3⟩,U5⟩,gi⟩:=hN;obtain⟨x,y,gl,Xx⟩:=g0.LQ0 hi KL;generalize hG:gI i (HQ x y)=Gl at gl Xx;have E8:Gl.CA i=HQ x y:=by rw[<-hG,eU,y3 O]
  have SQ0:∀j,j≠i->Gl.CA j=P3 j:=λ j hj=>by rw[<-hG,eU,w3 hj]
  ext;have hnl:Gl.tJ=J3:=by rw[<-hG];rfl
  have hml:Gl.E6=UB:=by rw[<-hG];rfl
  symm;have Yx:=HI Xx;have E70:O8 4 A':=qf (by exact u6 O);have Xl:G5 B 4 A' N0 FI (NL i nn) Gl s0:=⟨E70,ES,gl,Yx⟩;have IQ:I4 (vc "source") (NL i nn)=E0 (.J0 i):=by rw[xH,y3 O]
  have Za:I4 (vc "top") (NL i nn)=E0 (.j0 (.O4 nn)):=by rw[xH,w3 n3,xH,y3 O]
  ext;have O6:∀{G2:Gh}{s2:D1}{d:C0}{t:P6}{z w:B2}{V8:PV},A3 B (D5 N0 FI) Gl s0 G2 s2->J1 B A' G2 s2->d<nn->XR=Gl.dU i (HQ z w)->Po B (YE B N0) (D5 N0 FI) A' G s0 (λ f σ=>(∃v e,f=.U1 v e/\P v σ)\/∃e,f=.W4 e/\P .H0 σ) (.U1 (.j0 (d:B2) t)) s2:=λ{G2 s2 d t z w V8} I2 g2 hd OM=>by
   obtain⟨g3,U5⟩:=fB0 g0 g2 ((Xx.E5 λ _ q=>Q6).U2 I2) (by rw[OM];exact hnl) (by rw[OM];exact hml) λ j=>by
    rw[OM,Iz];by_cases q:j=i
    ·subst q;rw[y3 O];exact .L2 ⟨KL,_,_,O⟩
    ·rw[w3 q,SQ0 j q];exact .S2 O
   exact⟨G,.U1 (.j0 (.O4 d)) V8,U5,g3,⟨t,O⟩,.S2 ⟨_,_,O,M0 d hd⟩⟩
  refine AB (LA0 (W80 (V3 (MZ (G:=Gl) (O0:=NL i nn) MF o1 l1 IQ E8 O s0 _ gl Yx) ?_ λ _ _ h=>h)));intro v s1 Z2;obtain⟨⟨t,ev⟩,C2,g1⟩:=Z2;subst ev;refine V3 (HF (B:=B) (N0:=N0) (O0:=NL i nn) s1 _ g1 (Yx.XZ C2)) ?_ λ _ _ h=>h;intro w s2 Z2;obtain⟨⟨t,ew⟩,I2,g2⟩:=Z2;subst ew;refine eM.gt_int (bj ?_);symm;have Zd:=FC I2;have X2:=Xl.K6 Zd g2;by_cases hx:(0:B2)<x
  ·ext;rw[RW hx,y3 O];obtain⟨d,hd,Zx⟩:=Wx (a:=x) hnp;refine Kl (FZ:=HB) (k:=1) (ih:=nD HB Tz 4) Xz.CT Xz.ON y8 X2 (i:=GA d) O O O (λ _ _ _ _ q=>by contradiction)
    (tD (rT DO MF H00 gi O (MZ MF o1 l1 IQ E8 O)) (FJ MF o2 l2 Za) λ s t u Q E h=>by rw[<-Zx]at h;exact ma (by simp;omega) h)
    (P:=λ e σ=>e=A6 (vc "drawn") (.j0 (.O4 d)) (NL i nn)/\σ=Gl.σ) (by
     have:cT FI (cE gF cl 1 FI) (eN "drawn" 734 8 13)=.F0 (vc "drawn"):=by
      show(bif A5 "drawn"&&z6 FI "drawn" then C.F0 (vc "drawn")else .M2)=_;rw[o3,U5];rfl
     rw[J2];exact⟨O,O⟩) λ G3 e3 s3 DZ g3 sD zz=>EO zz λ BZ wQ=>?_
   symm;subst BZ;have X3:G5 B 4 A' N0 FI (A6 (vc "drawn") (.j0 (.O4 d)) (NL i nn)) G3 s3:=⟨E70,ES,g3,sD⟩;ext;have Je:G3.CA i=HQ x y:=by rw[wQ];exact E8
   have F70:I4 (vc "source") (A6 (vc "drawn") (.j0 (.O4 d)) (NL i nn))=E0 (.J0 i):=by rw[ZD,w3 n4];exact IQ
   refine Kl (FZ:=HB) (k:=1) (ih:=nD HB Tz 4) Xz.CT Xz.ON y8 X3 (i:=x.fdiv (nn:B2)) O O O (λ _ _ _ _ q=>by contradiction)
    (tD (MZ MF o1 l1 F70 Je O) (FJ MF o2 l2 (i:=(nn:B2)) (by
     rw[ZD]
     split
     ·rename_i q;exact U3 q (by decide +F7)
     ·exact Za)) λ s t u Q E h=>eM.BV0 (by omega) h (.S2 (PyProof.KU0 (by omega))))
    (C70 (P:=λ e σ=>e=A6 (vc "drawn") (.j0 (.O4 d)) (NL i nn)/\σ=G3.dU i (HQ (x.fdiv nn) y)) (by rw[o1,l1];rfl) F70 Je (.S2 O) ⟨O,O⟩) λ G4 e4 s4 wA g4 yY zz=>EO zz λ Xk hs4=>?_
   subst Xk;refine AB (Hb (V3 (FJ (B:=B) (i:=GA d) (O0:=A6 (vc "drawn") (.j0 (.O4 d)) (NL i nn)) MF o3 l3 (by rw[ZD,y3 O]) s4 _ g4 yY) ?_ λ _ _ h=>h));intro v s5 Z2;obtain⟨⟨t,ev⟩,NN,g5⟩:=Z2;subst ev;exact O6 (V8:=.B0) ((((Zd.E5 λ _ q=>Q6).U2 DZ).U2 wA).U2 (NN.E5 λ _ q=>Q6)) g5 hd (by rw[hs4,wQ])
  ·ext;rw[Fk hx,w3 (by trivial)];refine KP ?_;obtain⟨y',hy',hye⟩:=Wx (a:=y*39373+7) (n:=2147483647) (by decide);refine Kl (FZ:=HB) (k:=1) (ih:=nD HB Tz 4) Xz.CT Xz.ON y8 X2 (i:=GA y') O O O (λ _ _ _ _ q=>by contradiction)
    (tD (rT DO MF H00 gi O (tD (c:=y*39373+7) (tD (c:=y*39373) (MZ MF o1 l1 IQ E8 O) HF λ s t u Q E h=>WZ h (HW (by decide) (by decide))) HF λ s t u Q E h=>li h)) HF λ s t u Q E h=>by rw[<-hye]at h;exact ma (by decide) h)
    (C70 (P:=λ e σ=>e=NL i nn/\σ=Gl.dU i (HQ x (GA y'))) (by rw[o1,l1];rfl) IQ E8 (.L2 O) ⟨O,O⟩) λ G3 e3 s3 DZ g3 sD zz=>EO zz λ BZ wQ=>?_
   symm;subst BZ;have Je:G3.CA i=HQ x (GA y'):=by rw[wQ,Iz,y3 O]
   obtain⟨d,hd,Zx⟩:=Wx (a:=((GA y'*GA y').cy 2147483629).fdiv 32) hnp;have ev:S9 B A' N0 G3 (NL i nn) (eO .tX (eC (eN "int" 738 11 14) [(eO .PA0 (eO .tX (eC (eN "int" 738 15 18) [(eO .tP (eS (eN "source" 738 19 25) (eI 1 738 26 27) 738 19 28) (eS (eN "source" 738 31 37) (eI 1 738 38 39) 738 31 40) 738 19 40)] 738 15 41) (eI 2147483629 738 44 54) 738 15 54) (eI 32 738 58 60) 738 15 60)] 738 11 61) (eN "top" 738 64 67) 738 11 67) (GA d):=
    tD (rT DO MF H00 gi O (tD (c:=((GA y'*GA y').cy 2147483629).fdiv 32) (tD (c:=(GA y'*GA y').cy 2147483629) (rT DO MF H00 gi O (tD (c:=GA y'*GA y') (MZ MF o1 l1 IQ Je O) (MZ MF o1 l1 IQ Je O)
     λ s t u Q E h=>WZ h (HW (by simp) (by simp only[VZ];omega)))) HF λ s t u Q E h=>ma (by decide) h) HF λ s t u Q E h=>eM.BV0 (by decide) h (.S2 (PyProof.KU0 (by decide)))))
     (FJ MF o2 l2 Za) λ s t u Q E h=>by rw[<-Zx]at h;exact ma (by simp;omega) h
   ext;refine AB (Hb (V3 (ev s3 _ g3 sD) ?_ λ _ _ h=>h));intro v s5 Z2;obtain⟨⟨t,ev⟩,NN,g5⟩:=Z2;subst ev;exact O6 (V8:=.B0) (((Zd.E5 λ _ q=>Q6).U2 DZ).U2 (NN.E5 λ _ q=>Q6)) g5 hd wQ
end
section
section
variable{B:Bs}{A:Around}{G G0 G1 G2:Gh}{s s':Shared}{F:Addr->Prop}{n:Nat}
theorem G70{i:C0}(hi:i<J3)(h:P3 i=.S4):FG ⟨nG,λ _=>Y2 i,J5,F5⟩ G (λ _=>i) 1:=by
 have q8:∀j,nG.q8 j=if j=0 then .S4 else .K4:=λ j=>by
  show(be .S4 0).o9 j=_;rw[MH];rfl
 refine{av:=O,le:=B8 _,em:=λ j hj=>⟨hi,O⟩,m:=O,ne:=O,Y0:=λ j hj=>?_,q8:=λ j hj=> .L2 ?_,KT:=λ j k hj hk _ _ _=>by exact ω46 ‹_› ‹_›}
 ·show nG.q8 j=_;rw[q8,w3 (by omega)]
 ·have:j=0:=by exact js ‹_›
  subst J2;exact⟨O,h⟩
theorem TQ0{l:P0 Ty}{p:PV}(h:l.K4 (λ t=>gM p XF)=I0):∃t∈l,p=XF:=by
 obtain⟨t,ht,e⟩:=va h;exact⟨t,ht,zO e⟩
theorem H70{n:C0}{p:PV}{σ:K1}(h:Ce n p σ=I0):(∃t∈EI n,p=XF)/\ZS σ nG 1=I0:=by
 obtain⟨h1,h2⟩:=dF h;exact⟨TQ0 h1,h2⟩
theorem UQ0{OV:K1}{K:C0}{ι:C0->C0}(hn:OV.n=K)(hm:OV.m=0)(Z6:OV.ne=[])(htop:∀i,K<=i->qN i=.K4)(hg:AG K (λ j=>bif CM (qN j)then I0 else SQ OV K (qN j))=I0)(h:a20 OV K ι R1=I0):
  FG ⟨OV,λ i=>Y2 (ι i),J5,F5⟩ G ι K:=by
 obtain⟨h1,h2⟩:=dF h;have iw:∀{o:AO},CM o=I0->o=.K4:=λ{o} h=>by cases o using FA<;>first|rfl|contradiction
 have I70:∀{o:AO},o≠.K4->CM o=R0:=λ{o} h=>by cases o using FA<;>first|rfl|exact U3 O h
 refine{av:=O,le:=MP hn.Z3,em:=λ i hi=>⟨?_,O⟩,m:=hm,ne:=Z6,Y0:=htop,q8:=λ i hi=>?_,KT:=λ i j hi hj ni nj e=>?_}
 ·have:=(dF (cR h1 i hi)).1;simpa[IH]using J2
 ·have h3:=(dF (cR h1 i hi)).2;have h4:=cR hg i hi;cases ha:CM (qN i)with
  |I0=>exact .S2 (iw ha)
  |R0=>
   rw[ha,NH]at h3 h4;exact .L2 ⟨h4,(h60 h3).Z3⟩
 ·have ni:CM (qN i)=R0:=I70 ni;have nj:CM (qN j)=R0:=I70 nj;have U7:∀{i j:C0},i<K->j<i->CM (qN i)=R0->CM (qN j)=R0->ι i≠ι j:=λ{i j} hi hj ni nj e=>by
   have h3:=cR h2 i hi;rw[ni,NH]at h3;have h4:=cR h3 j hj;rw[nj,NH,e,oZ]at h4;contradiction
  rcases C0.lt_trichotomy i j with q|q|q
  ·exact U3 td (U7 hj q nj ni)
  ·exact q
  ·exact U3 e (U7 hi q ni nj)
theorem VQ0(i:C0)(h:Wb<=i):I00 i=.K4:=by
 have h:29<=i:=h;have:∀j,I00 j=if j=8 then _ else if j=7 then _ else if j=6 then _ else if j=5 then _ else if j=4 then _ else if j=3 then _ else if j=2 then _ else if j=1 then _ else if j=0 then _ else .K4:=λ j=>by
  show(((((((((be _ 0).A9 _ 1).A9 _ 2).A9 _ 3).A9 _ 4).A9 _ 5).A9 _ 6).A9 _ 7).A9 _ 8).o9 j=_;rw[MH,MH,MH,MH,MH,MH,MH,MH,MH];rfl
 rw[J2]
 iterate 9 rw[w3 (by omega)]
theorem WQ0:AG Wb (λ j=>bif CM (I00 j)then I0 else SQ NY Wb (I00 j))=I0:=by kernel_rfl
def XQ0(q p:PV)(σ:K1):I1:=bif gM p q then ZS σ NY Wb else R0
theorem YQ0:FW (EI 2) (λ t=>S8 (XQ0 XF) (iR (.Y0 582) (.A0 (.J0 0) (.A0 xU .B0)) NY))=I0:=by kernel_rfl
section
variable{P:PV->K1->Prop}{X:Nat->K1->Prop}{args:PV}{vals:List Value}{o:Out PV}(HC:rO B 110 Ra)(room:O8 110 A)(gd:Good B A G s)(ra:A4 G s.heap args vals)
include HC room gd ra
theorem ZQ0(ho:j20 L1 R1=E0 o)(M0:aH P X):V0 R2 A (X7 (.J0 582) L5) (Po B RV N2 A G s P) (Px B N2 A G s X) s:=by
 obtain⟨⟨q1,q2⟩,e1,ho⟩:=q9 ho;obtain⟨a,e2,ho⟩:=q9 ho;obtain⟨i,e3,ho⟩:=q9 ho;obtain⟨hi,ho⟩:=BK ho;obtain O:=I3 ho;obtain O:=KZ e2;obtain O:=wrP_of e3;obtain O:=GW e1;obtain⟨v1,l1,O,r1,v2,l2,O,r2,O⟩:=ra;have S:=UQ0 (G:=G) (ι:=vm (bh R1 a)) O O O VQ0 WQ0 hi;obtain⟨hi,r2⟩:=g60.mp r2;have ht:=l60 (kz.iI i hi);have r3:=(Be (G:=G) (G0:=⟨NY,λ j=>Y2 (vm (bh R1 a) j),J5,F5⟩) (h:=W0) (v:=v2) (iz (J5 i)) O).C8 r2;have r4:H3 ⟨NY,λ j=>Y2 (vm (bh R1 a) j),J5,F5⟩ W0 (.J0 0) v1:=⟨(by show 0<29;decide),r1.2⟩;exact EW (L1:=.A0 (.J0 0) (.A0 (J5 i).w .B0)) HC S gd D6 ⟨_,_,O,r4,_,_,O,r3,O⟩ (JZ YQ0 _ ht) (λ p σ h=>by
  obtain⟨h1,h2⟩:=dF h;rw[zO h1];exact⟨HX _,h2⟩) λ v s' p σ g2 I2 rp hc=>by
  rw[zO (dF hc).1]at rp;exact .at (R:=RV) (a:=.ty i) I2 g2 (F00 ⟨hi,rp⟩) M0
theorem aQ0(ho:d20 L1 R1=E0 o)(M0:aH P X):V0 R2 A (X7 (.J0 904) L5) (Po B RV N2 A G s P) (Px B N2 A G s X) s:=by
 obtain⟨⟨q1,q2⟩,e1,ho⟩:=q9 ho;obtain⟨i,e2,ho⟩:=q9 ho;obtain⟨k,e3,ho⟩:=q9 ho;obtain⟨KL,ho⟩:=BK ho;obtain⟨hk,ho⟩:=BK ho;obtain O:=I3 ho;have KL:=q60 KL;obtain O:=KZ e2;obtain O:=Sx e3;obtain O:=GW e1;have hk:=u6 hk;obtain⟨v1,l1,O,r1,v2,l2,O,r2,O⟩:=ra;have S:=G70 r1.1 KL;have nD:S8 (Ce k) (iR (.Y0 904) (.A0 (.J0 0) (.A0 (.j0 (.O4 k)) .B0)) nG)=I0:=by
  have:k=0\/k=1\/k=2:=by exact ω100 ‹_›
  rcases J2 with O|O|O
  ·exact qP0
  ·exact rP0
  ·exact sP0
 refine EW (L1:=.A0 (.J0 0) (.A0 (.j0 (.O4 k)) .B0)) HC S gd D6 ⟨_,_,O,⟨gU0,r1.2⟩,_,_,O,r2,O⟩ nD (λ p σ h=>?_) λ v s' p σ g2 I2 rp hc=>?_
 ·obtain⟨⟨t,ht,O⟩,h2⟩:=H70 h;exact⟨HX _,h2⟩
 ·obtain⟨⟨t,ht,O⟩,_⟩:=H70 hc;have hd:=kP0 ht;have uC:∀j,j<UB->(λ j=>if j=UB then t else J5 j) j=J5 j:=λ j hj=>w3 (ZC hj);obtain⟨g3,U5⟩:=g2.upT (σ:=G.mU (.RC (zL k) k)) (τ:=λ j=>if j=UB then t else J5 j) (TS.Mp uC) (lA.Mp kz uC (by show(if UB=UB then t else _).iI<=2;rw[y3 O];exact X6 ‹_› ‹_›) (by
   show zL k<32/\qC (zL k) ((if UB=UB then t else _).hd)=I0/\(if UB=UB then t else _).iI<=k;rw[y3 O];refine⟨by unfold zL;cases Y1 k 0<;>decide,?_,hd⟩;unfold zL;cases h0:Y1 k 0 with
   |I0=>
    rw[M6 h0]at hd;cases t using SG with
    |Y8 u=>simp[Gn]at hd
    |Z8 u=>simp[Gn]at hd
    |_=>rfl
   |R0=>
    cases t using SG with
    |Y8 u=>rw[show(BB0 u).hd=3 from O];decide
    |Z8 u=>rw[show(CB0 u).hd=4 from O];decide
    |_=>rfl))
  refine .at (R:=RV) (a:=.ty UB) (UP U5) g3 (F00 ⟨TD _,?_⟩) M0;show H3 _ _ (if UB=UB then t else _).p v;rw[y3 O];exact(Be (G0:=WX (G.mU (.RC (zL k) k)) λ j=>if j=UB then t else J5 j) (G:=G) (HX _) O).C8 rp
end
theorem bQ0(X:VM B gF cl TB)(LF:Ie X)(m:C0):Lv B gF cl (m+10) (nD HB Ta m):=
 gk (X.MO OQ0 PQ0) 10 (λ m=>D70 X LF m) (λ LV=>Ex DO LV) (λ n=>Fx n) m
theorem cQ0(X:VM B gF cl TB)(LF:Ie X)(m:C0):qd B TB (m+111):=by
 intro A G s a k p b L1 L5 o P Q he D6 gd ra ho M0;have ha:=p60 he;have HC:rO B 110 Ra:=(bQ0 X LF 100).K2;have yL:O8 110 A:=D6.le (by exact u6 O);induction k using kk9 with
 |h0=>
  exact D70 X LF (m+100) (a:=a) (k:=0) (p:=p) (b:=b) (by
   show IZ (l7 a)=_;rw[show l7 a=_ from he];rfl) D6 gd ra ho M0
 |h1=>rw[ha];exact aQ0 HC yL gd ra ho M0
 |h2=>rw[ha];exact GQ0 HC yL gd ra ho M0
 |h3=>rw[ha];exact IQ0 HC yL gd ra ho M0
 |h4=>rw[ha];exact HQ0 HC yL gd ra ho M0
 |h5=>rw[ha];exact JQ0 HC yL gd ra ho M0
 |h6=>contradiction
 |h7=>rw[ha];exact KQ0 HC yL gd ra ho M0
 |h8=>rw[ha];exact ZQ0 HC yL gd ra ho M0
 |hr k=>contradiction
theorem dQ0(X:VM B gF cl TB)(LF:Ie X)(m:C0):Lv B gF cl (m+110) (nD HB TB m):=
 gk X 110 (λ m=>cQ0 X LF m) (λ LV=>Ex DO LV) (λ n=>Fx n) m
end
end
section
variable{w:World}
@[irreducible] def ob(w:N4)(a:C0):Q1 D4:=(H.uX O5).o9 a
theorem Ll{a:C0}{o:D4}(h:a<944)(e:ob w a=E0 o)(nf:I9≠.lz):(Aa O5).X5 a=E0 o:=by
 unfold ob at e;rw[show(Aa O5).X5 a=GE o from abs_get h e];obtain⟨c,d,dt,sl⟩:=o;cases dt<;>first|rfl|exact U3 O nf
def oo(w:N4)(a:C0):D4:=(ob w a).jI ⟨.H0,H0,.xF,#[]⟩
def Ml(o:D4):M4 K0:=match I9 with
 |.T5 vs=>vs
 |_=>#[]
def Nl(v:K0):u0:=match v with
 |.Z0 s _=>s
 |_=>""
def vTk(v:K0):P6:=match v with
 |.Z0 _ t=>t
 |.j0 _ t=>t
 |_=>0
def vIn(v:K0):B2:=match v with
 |.j0 i _=>i
 |_=>0
def vBo(v:K0):I1:=match v with
 |.O3 b=>b
 |_=>R0
def Ol(v:K0):K0:=.Z0 (Nl v) (vTk v)
def J70(v:K0):K0:=.j0 (vIn v) (vTk v)
def NZ:P0 (C0×C0):=[(35,31),(84,80),(91,87),(98,94),(105,101),(112,108),(117,115),(124,120),(131,127),(145,141),(152,148),(157,155),(164,160),(169,167),(185,181),(192,188),(197,195),(202,200),(209,205),(216,212),(223,219),(228,226),(235,231),(240,238),(246,244),(253,249),(260,256),(265,263),(272,268),(286,282),(298,296),(303,301),(308,306),(313,311),(318,316),(325,321),(332,328),(339,335),(346,342),(351,349),(358,354),(363,361),(370,366),(377,373),(391,387),(398,394),(412,408),(417,415),(424,420),(431,427),(438,434),(445,441),(474,470),(479,477),(486,482),(491,489),(498,494),(505,501),(510,508),(525,521),(539,535),(546,542),(560,556),(567,563),(574,570),(581,577),(621,619),(635,631),(642,638),(647,645),(682,678),(689,685),(701,699),(708,704),(715,711),(731,727),(752,748),(773,769),(795,791),(817,813),(838,834),(845,841),(852,848),(863,859),(870,866),(877,873),(884,880),(891,887),(896,894),(903,899),(910,906),(917,913),(922,920),(927,925),(932,930),(937,935),(942,940)]
def ZJ(w:N4)(a k:C0):K0:=(Ml (oo w a)).jI k .H0
def K70(w:N4)(p:C0×C0):Q1 D4×Q1 K0×K0×K0×K0×K0×Q1 K0×Q1 D4:=
 (ob w p.1,(Ml (oo w p.1))[11]?,ZJ w p.1 18,ZJ w p.1 7,ZJ w p.1 9,ZJ w p.1 10,(Ml (oo w p.1))[1]?,ob w p.2)
def L70(w:N4)(p:C0×C0):Q1 D4×Q1 K0×K0×K0×K0×K0×Q1 K0×Q1 D4:=
 (E0 ⟨.U0 "code",H0,.T5 (Ml (oo w p.1)),(oo w p.1).LC⟩,E0 (.J0 p.2),Ol (ZJ w p.1 18),J70 (ZJ w p.1 7),.O3 (vBo (ZJ w p.1 9)),J70 (ZJ w p.1 10),E0 (Ol (ZJ w p.1 1)),E0 ⟨.H0,H0,.T5 #[],#[]⟩)
theorem eQ0(w:N4):vR (K70 w)=vR (L70 w):=by kernel_rfl
theorem zLt:NZ.dA (λ p=>Y6 p.1 944&&Y6 p.2 944)=I0:=by kernel_rfl
theorem fQ0:(vR (·.2)).JD:=by decide +F7
theorem gQ0{vs:M4 K0}{v:K0}(h:vs[11]?=E0 v):vs.jI 11 .H0=v:=by
 rw[M4.getD_eq_getD_getElem?,h];rfl
theorem Ke{c z:C0}(h:(c,z)∈NZ):(Aa O5).YR c z #[]/\(Aa O5).Sy c z #[]/\sJ (Aa O5) (.J0 c) (Nl (ZJ w c 1)):=by
 symm;have hl:=IR zLt _ h;rw[N5]at hl;have:=nr (eQ0 w) _ h;unfold K70 L70 at J2;simp only[hU0]at J2;obtain⟨e0,e1,e2,e3,e4,e5,e6,e7⟩:=J2;have g1:=Ll (u6 hl.1) e0 nofun;have g2:=Ll (u6 hl.2) e7 nofun;ext;have ne:c≠z:=λ q=>by rw[q,g2]at g1;cases g1
 exact⟨⟨_,_,_,_,_,_,_,_,_,_,g1,O,gQ0 e1,e2,e3,e4,e5,g2,O,FE,ne⟩,⟨⟨_,_,g1,O,O,e1⟩,g2⟩,c,_,_,_,O,g1,O,O,e6⟩
def Ql(h:O1)(c z:C0):Prop:=∃ps,io c z ps/\h.Sy c z ps/\∀D2 c',zZ D2 k00=E0 c'->∃q,sJ h c' q
def Rl(h:O1):Prop:=∀p∈NZ,Ql h p.1 p.2
theorem hQ0{D2:T3}{a b:B2}{c x:K0}(l:P0 K0)(h:DA0 l)(hn:zZ D2 (l++[j5 a,j5 b,c])=E0 x):zZ D2 l=E0 x\/x=c:=by
 fun_induction DA0 l with
 |case1=>
  dsimp only[R90,zZ,j5]at hn
  split at hn
  ·obtain O:=I3 hn;exact .L2 O
  ·contradiction
 |case2 a t b u y J4 ih=>
  simp only[Ev,zZ]at hn ⊢
  split
  ·rename_i hc;rw[y3 hc]at hn;exact .S2 hn
  ·rename_i hc;rw[w3 hc]at hn;exact ih h hn
 |case3 l h1 h2=>exact u4
theorem Ql.MC{h h':O1}{c z:C0}(x:Ql h c z)(hz:∀o,C3 z=E0 o->D3 z=E0 o)(hc:∀b o,C3 b=E0 o->YR o->D3 b=E0 o):Ql h' c z:=by
 symm;obtain⟨ps,⟨o,vs,f,tf,fl,tg,b,tx,tt,op,a1,a2,a3,a4,a5,a6,a7,a8,a9⟩,⟨⟨o',rC,b1,b2,b3,b4⟩,b5⟩,r⟩:=x;have k:=hc _ _ b1 ⟨b2,_,b3⟩;ext;have:o=o':=by rw[a1]at b1;obtain O:=I3 b1;rfl
 subst J2;exact⟨ps,⟨o,vs,f,tf,fl,tg,b,tx,tt,op,k,a2,a3,a4,a5,a6,a7,hz _ a8,a9⟩,⟨⟨o,rC,k,b2,b3,b4⟩,hz _ b5⟩,λ D2 c' e=>by obtain⟨q,cr⟩:=r D2 c' e;exact⟨q,cr.at hc⟩⟩
theorem iQ0{h:O1}{c P P':H1}{ps ps':M4 K0}(x:io c P ps)(y:io c P' ps'):P=P'/\ps=ps':=by
 symm;obtain⟨o,vs,f,tf,fl,tg,b,tx,tt,op,a1,a2,a3,a4,a5,a6,a7,a8,a9,_⟩:=x;obtain⟨o',rC,f',tf',fl',tg',b',tx',tt',op',b1,b2,b3,b4,b5,b6,b7,b8,b9,_⟩:=y;rw[a1]at b1;obtain O:=I3 b1;ext;rw[a2]at b2;cases b2;rw[a3]at b3;cases b3;rw[a8]at b8;obtain O:=I3 b8;rw[a9]at b9;cases b9;exact⟨O,O⟩
theorem jQ0{l:P0 (C0×C0)}(nd:(wP (·.2)).JD){a b z:C0}(h1:(a,z)∈l)(h2:(b,z)∈l):a=b:=by
 induction l with
 |B0=>contradiction
 |A0 p r ih=>
  rw[FU,JP]at nd;rcases kA h1 with O|m1
  ·rcases kA h2 with e|m2
   ·cases e;rfl
   ·exact U3 (HP ⟨(b,z),m2,O⟩:z∈xP (·.2)) nd.1
  ·rcases kA h2 with O|m2
   ·exact U3 (HP ⟨(a,z),m1,O⟩:z∈xP (·.2)) nd.1
   ·exact ih nd.2 m1 m2
def Me(o:D4):M4 YN:=match I9 with
 |.H2 es _=>es
 |_=>#[]
def dNn(o:D4):C0:=match I9 with
 |.H2 _ n=>n
 |_=>0
def bx(w:N4)(a:C0)(c:K0):D4:=⟨c,(oo w a).H2,.H2 (Me (oo w a)) (dNn (oo w a)),(oo w a).LC⟩
theorem kQ0(w:N4):ob w vZ=E0 (bx w vZ (oo w vZ).O2):=by kernel_rfl
theorem lQ0{h h':O1}{a:H1}(k:∀b o,C3 b=E0 o->b=a\/YR o->D3 b=E0 o)(x:xQ h a):xQ h' a:=by
 obtain⟨W2,uB,wC,P4,sc,pm,QD,PE,q,ok,g,cr⟩:=x;exact⟨W2,uB,wC,P4,sc,pm,QD,PE,q,ok,k _ _ g (.S2 O),cr.at λ b o e c=>k b o e (.L2 c)⟩
structure QE(w:N4)where
 h:O1
 y:∀b o,(Aa O5).X5 b=E0 o->C3 b=E0 o
 Eg:∃o,C3 (o8-1)=E0 o
theorem gx{h:O1}(y:∀b o,(Aa O5).X5 b=E0 o->C3 b=E0 o):Rl h:=λ p hp=>by
 obtain⟨i,t,_⟩:=Ke hp;exact⟨#[],i.zW y,t.zW y,λ D2 c' e=>by contradiction⟩
theorem Rl.at{h:O1}(x:Rl h){b:C0}(hb:b∈vR (·.2)):∃ps,C3 b=E0 {O2:=.H0,M3:=.T5 ps}:=by
 obtain⟨⟨c,z⟩,hp,O⟩:=ca.mp hb;obtain⟨ps,_,t,_⟩:=x _ hp;exact⟨ps,t.2⟩
def S5(t:QE w):Bs where
 L3:=H.pw
 w:=w
 hf:=t.h
 Z:=vR (·.2)
 zin b hb:=by obtain⟨ps,e⟩:=(gx Bp).at hb;exact⟨_,e⟩
 Z30:=by
  rw[Bp _ _ (Ll (by decide) (kQ0 w) nofun)];rfl
 qA:=λ _=>xQ
 NG h:=Rl h/\∀b o,Vg b=E0 o->H4=.U0 "frame"\/H4=.U0 "traceback"->C3 b=E0 o
 Eg h z k:=by
  obtain⟨o,e⟩:=t.Eg;have l0:=r9 e;have:∃o',C3 (t.o8-1)=E0 o':=by
   by_cases hz:t.o8-1∈vR (·.2)
   ·obtain⟨ps,e⟩:=z.1.at hz;exact⟨_,e⟩
   ·by_cases h1:H4=.U0 "frame"
    ·exact⟨o,z.2 _ _ e (.S2 h1)⟩
    ·by_cases h2:H4=.U0 "traceback"
     ·exact⟨o,z.2 _ _ e (.L2 h2)⟩
     ·exact⟨o,k _ _ e hz h1 h2⟩
  obtain⟨o',e'⟩:=J2;exact C0.le_of_pred_lt (r9 e')
 Ss h x b hb o ho:=by
  obtain⟨ps,e⟩:=x.1.at hb;rw[ho]at e;obtain O:=I3 e;exact⟨by simp,by simp⟩
 iI0 h h' k x:=⟨λ p hp=>(x.1 p hp).MC (λ o e=>k _ _ e (.S2 (HP ⟨p,hp,O⟩))) λ b o e c=>k b o e (.L2 (.S2 c)),λ b o e c=>k b o (x.2 b o e c) (.L2 (.L2 ⟨o,e⟩))⟩
 zfr x:=x.2
 jI0 _ h h' a k x:=lQ0 k x
 Ti v:=∃c z,v=.J0 c/\(c,z)∈NZ
 zfn:=λ{v h} zz x=>e2n4 zz λ c z e hp=>by obtain⟨ps,i,t,r⟩:=x.1 _ hp;exact⟨c,z,ps,e,i,t,HP ⟨_,hp,O⟩,r⟩
 a30:=λ{v h h' c P ps D2 c' q} zz e x i hx Z7 i' t' cr=>e2n4 zz λ c0 z0 e0 hp0=>by
  subst e;cases e0;obtain⟨ps0,i0,t0,r0⟩:=x.1 _ hp0;obtain⟨O,O⟩:=iQ0 i i0;have t0:C3 P=_:=t0.2;have rR:∀b o,C3 b=E0 o->YR o->D3 b=E0 o:=λ b o e ic=>hx _ _ (λ q=>by
   rw[q,t0]at e;obtain O:=I3 e;exact U3 ic.1 (by simp)) e
  refine⟨λ p hp=>?_,λ b o e c=>hx _ _ (λ q=>?_) (x.2 b o e c)⟩
  ·by_cases hc:p=(c,P)
   ·subst hc;refine⟨_,i',t',λ pos' y hy=>?_⟩;have tr:DA0 k00:=by obtain⟨_,_,_,_,_,_,_,_,_,_,_,_,_,_,_,_,_,_,_,t,_⟩:=i;exact t
    rw[M4.toList_append]at hy;rcases hQ0 _ tr hy with hy|O
    ·obtain⟨q',cr'⟩:=r0 _ _ hy;exact⟨q',cr'.at rR⟩
    ·exact⟨q,cr⟩
   ·refine(x.1 p hp).MC (λ o e=>hx _ _ (λ q=>?_) e) rR;exact hc (by
     obtain⟨a,b⟩:=p;have q:b=P:=q;subst q;rw[jQ0 fQ0 hp hp0])
  ·have:=x.2 b o e c;rw[q,t0]at J2;obtain O:=I3 J2;rcases c with c|c<;>contradiction
 b30 _ h a x:=by
  obtain⟨W2,uB,wC,P4,sc,pm,QD,PE,q,ok,g,cr⟩:=x;exact⟨_,g,O⟩
theorem BP{t:QE w}{a:C0}{o:D4}(h:a<944)(e:ob w a=E0 o)(nf:I9≠.lz):(S5 t).hf.X5 a=E0 o:=Bp _ _ (Ll h e nf)
end
section
variable{w:World}{t:Top w}
def mQ0:P0 (C0×C0):=[(39,38),(52,51),(64,63),(76,75),(173,172),(290,289),(456,455),(514,513),(693,692),(735,734),(756,755),(777,776),(799,798),(828,827)]
def CP:P0 (C0×K0):=(0,.U0 "dict")::(2,.H0)::(3,.U0 "dict")::mQ0.Y4 λ p=>(p.2,.U0 "dict")
def QN(w:N4)(a:C0):P0 YN:=(Me (oo w a)).bE
theorem nQ0(w:N4):CP.Y4 (λ p=>(ob w p.1,(QN w p.1).Y4 (·.U7)))=CP.Y4 λ p=>(E0 (bx w p.1 p.2),(QN w p.1).Y4 λ e=>Ol FS):=by kernel_rfl
theorem oQ0:CP.dA (λ p=>Y6 p.1 944&&!((vR (·.2)).VG p.1)&&match p.2 with|.H0=>I0|.U0 s=>s=="dict"|_=>R0)=I0:=by kernel_rfl
theorem YU{α β:Type}{f g:α->β}:∀{l:P0 α},wP f=wP g->∀x∈l,f x=g x:=nr
theorem pQ0{w:N4}{a:C0}(h:(QN w a).Y4 (·.U7)=(QN w a).Y4 λ e=>Ol FS):hA0 (Me (oo w a)):=λ e he=>⟨_,_,YU h e (M4.mem_toList_iff.C8 he)⟩
def mN(w:N4)(a:C0)(x:u0):Q1 K0:=fm (Me (oo w a)) x
theorem jx{a:C0}{c:K0}(h:(a,c)∈CP):ob w a=E0 (bx w a c)/\hA0 (Me (oo w a)):=by
 have:=YU (nQ0 w) _ h;exact⟨(uZ J2).1,pQ0 (uZ J2).2⟩
theorem M70{c:K0}(h:(match c with|.H0=>I0|.U0 s=>s=="dict"|_=>R0)=I0):c≠.U0 "frame"/\c≠.U0 "traceback":=by
 refine⟨λ q=>?_,λ q=>?_⟩<;>(subst q;contradiction)
theorem sQ{a:C0}{c:K0}(h:(a,c)∈CP)(hp:O1)(bo:YD (S5 t) hp):hp.Ns a (mN w a):=by
 obtain⟨e,sk⟩:=jx (w:=w) h;have hl:=IR oQ0 _ h;rw[N5,N5]at hl;obtain⟨⟨h1,h2⟩,h3⟩:=hl;have hz:a∉(S5 t).Z:=λ q=>by
  have q:a∈vR (·.2):=q;rw[P0.contains_iff_mem.C8 q]at h2;contradiction
 have g:=bo _ _ (BP (u6 h1) e nofun) hz (M70 h3).1 (M70 h3).2;exact⟨_,_,_,g,O,sk,λ x=>O⟩
theorem m0:((0,.U0 "dict"):C0×K0)∈CP:=.J8 _
theorem m2:((2,.H0):C0×K0)∈CP:=.x7 _ (.J8 _)
theorem m3:((3,.U0 "dict"):C0×K0)∈CP:=.x7 _ (.x7 _ (.J8 _))
def qQ0(v:K0):I1:=match v with
 |.U0 n=>n=="tuple"
 |_=>R0
def rQ0(a:M4 (Q1 K0)):I1:=a.bE.jL
def Oe(o:Q1 D4):Q1 (P0 K0):=match o with
 |H0=>H0
 |E0 o=>match I9 with
  |.W5 vs _=>bif qQ0 H4&&(uU.fE&&rQ0 Wo)then E0 vs.bE else H0
  |_=>H0
theorem N70{o:Q1 D4}{l:P0 K0}(h:Oe o=E0 l):∃k,o=E0 (F8 l k):=by
 cases o using i9 with
 |H0=>contradiction
 |E0 o=>
  obtain⟨c,d,dt,sl⟩:=o;cases dt using Data.n8 with
  |W5 vs k=>
   obtain⟨hc,h⟩:=UC h;obtain⟨h1,h2⟩:=Bi hc;obtain⟨h2,h3⟩:=Bi h2;obtain O:=I3 h;obtain O:=hY h2;obtain⟨sl⟩:=sl;obtain O:sl=[]:=Pv.mp h3;cases c using LP with
   |U0 n=>
    obtain O:n="tuple":=dD h1;exact⟨k,O⟩
   |_=>contradiction
  |_=>contradiction
def tT(w:N4)(p:PV):(K0->I1)×(P0 K0->I1):=
 @X_ (λ _=>(K0->I1)×(P0 K0->I1))
  (λ v=>match v with|.H0=>I0|_=>R0,λ _=>R0)
  (λ b=>(λ v=>match v with|.O3 c=>b==c|_=>R0,λ _=>R0))
  (λ i=>(λ v=>match v with|.j0 j _=>i==j|_=>R0,λ _=>R0))
  (λ n=>(λ v=>match v with|.Z0 s _=>!(Y1 n 0)&&Y1 (vc s) n|_=>R0,λ _=>R0))
  (λ n=>(λ v=>R0,λ _=>R0))
  (λ _=>R0,λ l=>l.jL)
  (λ _ _ a r=>(λ _=>R0,λ l=>match l with|v::q=>a.1 v&&r.2 q|_=>R0))
  (λ _ _ _ _ _=>(λ _=>R0,λ _=>R0))
  (λ _ l=>(λ v=>match v with|.J0 a=>Y6 a 944&&((Oe (ob w a)).Y4 l.2).jI R0|_=>R0,λ _=>R0))
  (λ i=>(λ v=>R0,λ _=>R0))
  (λ a=>(λ v=>match v with|.J0 b=>Y1 a b|_=>R0,λ _=>R0))
  (λ i=>(λ v=>R0,λ _=>R0))
  (λ i=>(λ v=>R0,λ _=>R0))
  (λ i=>(λ v=>R0,λ _=>R0)) p
theorem AR{a:C0}{o:D4}(h:(S5 t).hf.X5 a=E0 o)(hc:H4≠.H0):a∉(S5 t).Z:=λ q=>by
 obtain⟨⟨c,z⟩,hp,e⟩:=ca.mp q;have e:z=a:=e;subst e;have h2:Vg z=_:=Bp _ _ (Ke hp).2.1.2;have h:Vg z=E0 o:=h;rw[h]at h2;obtain O:=I3 h2;exact hc O
theorem O70(p:PV):(∀v,(tT w p).1 v=I0->∀h av,YD (S5 t) h->(∀a∈av,(S5 t).hf.X5 a=H0)->rJ av p h v)/\(∀l,(tT w p).2 l=I0->∀h av,YD (S5 t) h->(∀a∈av,(S5 t).hf.X5 a=H0)->Y30 av p h l):=by
 induction p with
 |H0=>
  refine⟨λ v e h av _ _=>?_,λ l e=>by contradiction⟩;cases v using LP<;>first|rfl|contradiction
 |O3 b=>
  refine⟨λ v e h av _ _=>?_,λ l e=>by contradiction⟩;cases v using LP with
  |O3 c=>exact H6 K0.O3 (dD e).Z3
  |_=>contradiction
 |j0 i=>
  refine⟨λ v e h av _ _=>?_,λ l e=>by contradiction⟩;cases v using LP with
  |j0 j t=>exact⟨t,H6 (K0.j0 · t) (dD e).Z3⟩
  |_=>contradiction
 |Z0 n=>
  refine⟨λ v e h av _ _=>?_,λ l e=>by contradiction⟩;cases v using LP with
  |Z0 s t=>
   have e:(!(Y1 n 0)&&Y1 (vc s) n)=I0:=e;simp only[N5,FP]at e;exact⟨tA e.1,s,t,O,M6 e.2⟩
  |_=>contradiction
 |B0=>exact⟨λ v e=>(by contradiction),λ l e h av _ _=>Pv.mp e⟩
 |A0 a r MG RA=>
  refine⟨λ v e=>(by contradiction),λ l e h av bo ha=>?_⟩;cases l using i5 with
  |B0=>contradiction
  |A0 v q=>
   have e:((tT w a).1 v&&(tT w r).2 q)=I0:=e;rw[N5]at e;exact⟨v,q,O,MG.1 v e.1 h av bo ha,RA.2 q e.2 h av bo ha⟩
 |Q0 l ih=>
  refine⟨λ v e h av bo ha=>?_,λ l e=>by contradiction⟩;cases v using LP with
  |J0 a=>
   have e:(Y6 a 944&&((Oe (ob w a)).Y4 (tT w l).2).jI R0)=I0:=e;rw[N5]at e;obtain⟨lt,e⟩:=e;cases ee:Oe (ob w a)with
   |H0=>rw[ee]at e;contradiction
   |E0 vs=>
    rw[ee]at e;obtain⟨k,ee⟩:=N70 ee;have g:(S5 t).hf.X5 a=E0 (F8 vs k):=BP (u6 lt) ee (by simp);refine⟨a,vs,k,O,λ q=>?_,bo _ _ g (AR g (by simp)) (by simp) (by simp),ih.2 _ e h av bo ha⟩;rw[ha a q]at g;contradiction
  |_=>contradiction
 |Y0 a=>
  refine⟨λ v e h av _ _=>?_,λ l e=>by contradiction⟩;cases v using LP with
  |J0 b=>exact H6 x6 (M6 e).Z3
  |_=>contradiction
 |_=>exact⟨λ v e=>(by contradiction),λ l e=>by contradiction⟩
def IW(v:K0):C0:=match v with
 |.Z0 s _=>vc s
 |_=>0
theorem P70{es:M4 YN}(sk:hA0 es){x:u0}(h0:vc x≠0):fm es x=(es.bE.find? λ e=>Y1 (IW FS) (vc x)).Y4 (·.B9):=by
 obtain⟨l⟩:=es;simp only[fm,nA0,AU0];have:∀e∈l,(FS.Qz x)=Y1 (IW FS) (vc x):=λ e he=>by
  obtain⟨n,t,hk⟩:=sk e (by simpa using he);rw[hk];show(n==x)=Y1 (vc n) (vc x);by_cases q:n=x
  ·subst q;rw[MW];exact(oZ _).Z3
  ·rw[show(n==x)=R0 by simpa using q];cases hb:Y1 (vc n) (vc x)with
   |R0=>rfl
   |I0=>exact U3 (mO (M6 hb).Z3 h0).Z3 q
 clear sk;induction l with
 |B0=>rfl
 |A0 e r ih=>
  rw[S90,S90,J2 e (aE ..)];cases Y1 (IW FS) (vc x)using o7 with
  |I0=>rfl
  |R0=>exact ih λ e he=>J2 e (AC _ he)
def lP(l:P0 YN):P0 (C0×K0):=wP λ e=>(IW FS,e.B9)
def RN(l:P0 (C0×K0))(k:C0):Q1 K0:=@pL (C0×K0) (λ _=>Q1 K0) H0 (λ p _ ih=>@L8 (λ _=>Q1 K0) ih (E0 p.2) (Y1 p.1 k)) l
theorem Q70(k:C0):∀l:P0 YN,(l.find? λ e=>Y1 (IW FS) k).Y4 (·.B9)=RN (lP l) k:=by
 intro l;induction l with
 |B0=>rfl
 |A0 e r ih=>
  have:RN (lP (e::r)) k=@L8 (λ _=>Q1 K0) (RN (lP r) k) (E0 e.B9) (Y1 (IW FS) k):=O;rw[J2,S90];cases Y1 (IW FS) k
  ·exact ih
  ·rfl
def sQ0(w:N4)(l:P0 (C0×K0)):I1:=gL.dA λ p=>match RN l p.1 with|E0 v=>(tT w p.2).1 v|H0=>R0
theorem tQ0(w:N4):sQ0 w (lP (QN w 3))=I0:=by kernel_rfl
theorem uQ0{x:C0}{p:PV}:∀{l:P0 (C0×PV)},Hs x l=E0 p->(x,p)∈l:=by
 intro zq;induction zq with
 |B0=>
  intro h;contradiction
 |A0 pq r ih=>
  intro h;obtain⟨k,q⟩:=pq;have h:@L8 (λ _=>Q1 PV) (Hs x r) (E0 q) (Y1 k x)=E0 p:=h;cases hb:Y1 k x with
  |I0=>
   rw[hb]at h;obtain O:=I3 h;rw[M6 hb];exact aE ..
  |R0=>rw[hb]at h;exact AC _ (ih h)
theorem vQ0{x:u0}{p:PV}(h0:vc x≠0)(h:gF (vc x)=E0 p):∃v,mN w 3 x=E0 v/\∀h av,YD (S5 t) h->(∀a∈av,(S5 t).hf.X5 a=H0)->rJ av p h v:=by
 have:=IR (tQ0 w) _ (uQ0 h);cases ev:RN (lP (QN w 3)) (vc x)with
 |H0=>rw[ev]at J2;contradiction
 |E0 v=>
  rw[ev]at J2;exact⟨v,(P70 (jx m3).2 h0).U2 ((Q70 _ _).U2 ev),(O70 p).1 v J2⟩
def OZ:P0 (u0×K0):=[((("len":u0)),UW "len"),("isinstance",.Z4 "isinstance"),("sorted",.Z4 "sorted"),("str",.U0 "str"),("tuple",.U0 "tuple"),("list",.U0 "list"),("dict",.U0 "dict"),
  ("zip",.U0 "zip"),("enumerate",.U0 "enumerate"),("range",.U0 "range"),("int",.U0 "int"),("Exception",.U0 "Exception"),("max",.Z4 "max"),("min",.Z4 "min")]
theorem wQ0(w:N4):OZ.Y4 (λ p=>(mN w 3 p.1,mN w 0 p.1))=OZ.Y4 λ p=>(H0,E0 p.2):=by kernel_rfl
theorem R70{x:u0}{v:K0}(h:(x,v)∈OZ):mN w 3 x=H0/\mN w 0 x=E0 v:=by
 have:=nr (wQ0 w) _ h;exact⟨H6 (·.1) J2,H6 (·.2) J2⟩
theorem Ul{i:C0}{x:u0}{v:K0}(h:OZ[i]?=E0 (x,v)):mN w 3 x=H0/\mN w 0 x=E0 v:=R70 (OL h)
theorem S70:mN w 3 "int"=H0/\mN w 0 "int"=E0 (.U0 "int"):=Ul (i:=10) O
theorem xQ0:mN w 3 "Exception"=H0/\mN w 0 "Exception"=E0 (.U0 "Exception"):=Ul (i:=11) O
theorem T70:mN w 3 "max"=H0/\mN w 0 "max"=E0 (.Z4 "max"):=Ul (i:=12) O
theorem yQ0:mN w 3 "min"=H0/\mN w 0 "min"=E0 (.Z4 "min"):=Ul (i:=13) O
theorem zQ0(w:N4):(mN w 2 "sys.recursionlimit").fE=I0:=by kernel_rfl
theorem AR0:∀p∈OZ.VJ 10,p∈OZ:=λ p h=>P0.mem_of_mem_take h
def Vl(t:QE w):S7 (S5 t) gF where
 mg:=mN w 3
 mb:=mN w 0
 hmg h bo:=sQ m3 h bo
 hmb h bo:=sQ m0 h bo
 noLimit h bo:=⟨_,sQ m2 h bo,hY (zQ0 w)⟩
 lm x p hx h:=vQ0 (DL hx).2.2 h
 bi x v h:=R70 (AR0 _ h)
theorem qx(w:N4):(ob w 4,mN w 3 "__builtins__")=(E0 ⟨.U0 "module",E0 0,.xF,#[]⟩,E0 (.J0 4)):=by kernel_rfl
def BR0(t:QE w):zV (Vl t)where
 bm:=4
 o:=⟨.U0 "module",E0 0,.xF,#[]⟩
 q8:=H6 (·.2) (qx w)
 n1:=by decide
 n2:=by decide
 o9:=BP (by decide) (H6 (·.1) (qx w)) (by simp)
 O2:=O
 H2:=O
 M3:=O
 z1:=AR (BP (by decide) (H6 (·.1) (qx w)) (by simp)) (by simp)
 z2:=by show 3∉vR (·.2);decide +F7
end
section
variable{w:World}{t:Top w}
def bK(fd:PH):P0 P5:=match RB0 with
 |.AE b=>b
 |_=>[]
def Wl(w:N4)(L:z5)(p:Pm):P0 u0->P0 K0->I1:=
 @Pm.NR (λ _=>P0 u0->P0 K0->I1) (λ ns ds=>ns.jL&&ds.jL)
  (λ x _ ih ns ds=>match ns with|s::ns=>Y1 (vc s) x&&(A5 s&&(z6 L s&&ih ns ds))|_=>R0)
  (λ x d _ ih ns ds=>match ns,ds with|s::ns,v::ds=>Y1 (vc s) x&&(A5 s&&(z6 L s&&((tT w d).1 v&&ih ns ds)))|_,_=>R0) p
theorem CR0{L:z5}{G:Gh}{h:O1}(bo:YD (S5 t) h)(zQ:∀a∈F5,(S5 t).hf.X5 a=H0)(p:Pm):∀{ns:P0 u0}{ds:P0 K0}{L1 O0:PV}{L5:P0 K0},Wl w L p ns ds=I0->v00 L1=E0 O0->A4 G h L1 L5->
  JK<=NK/\NK<=JK+mL/\mL<=NK/\U8 G h O0 (ns.v8 (L5++ds.TF (mL-(NK-JK))))/\∀x∈ns,A5 x=I0/\z6 L x=I0:=by
 induction p with
 |B0=>
  intro ns ds L1 O0 L5 hc hb hr;have hc:(ns.jL&&ds.jL)=I0:=hc;rw[N5,Pv,Pv]at hc;obtain⟨O,O⟩:=hc;have lc:=Ij hr;cases lc using E10 with
  |B0=>
   obtain O:=I3 hb;exact⟨B8 _,B8 _,B8 _,O,λ _ h=>by contradiction⟩
  |A0=>have hb:H0=E0 O0:=hb;contradiction
 |N1 x r ih=>
  intro ns ds L1 O0 L5 hc hb hr;cases ns using i5 with
  |B0=>contradiction
  |A0 s ns=>
   have hc:(Y1 (vc s) x&&(A5 s&&(z6 L s&&Wl w L r ns ds)))=I0:=hc;simp only[N5]at hc;obtain⟨h1,h2,h3,h4⟩:=hc;have h1:=M6 h1;have lc:=Ij hr;cases lc using E10 with
   |B0=>have hb:H0=E0 O0:=hb;contradiction
   |@A0 a q v vs ra rq=>
    have hb:(r.S6 q).Y4 (.kv x a)=E0 O0:=hb;obtain⟨e',he,O⟩:=DR hb;obtain⟨l1,l2,l3,rd,ok⟩:=ih h4 he rq;refine⟨CK l1,ω82 l2,ms l3,?_,λ y hy=>?_⟩
    ·rw[GJ,GJ,g80,Ev,LW];exact⟨s,v,_,O,h1▸(DL h2).2.2,h1,ra,rd⟩
    ·rcases kA hy with O|hy
     ·exact⟨h2,h3⟩
     ·exact ok y hy
 |XN x d r ih=>
  intro ns ds L1 O0 L5 hc hb hr;cases ns using i5 with
  |B0=>contradiction
  |A0 s ns=>
   cases ds using i5 with
   |B0=>contradiction
   |A0 dv ds=>
    have hc:(Y1 (vc s) x&&(A5 s&&(z6 L s&&((tT w d).1 dv&&Wl w L r ns ds))))=I0:=hc;simp only[N5]at hc;obtain⟨h1,h2,h3,h5,h4⟩:=hc;have h1:=M6 h1;have lc:=Ij hr;cases lc using E10 with
    |@A0 a q v vs ra rq=>
     have hb:(r.S6 q).Y4 (.kv x a)=E0 O0:=hb;obtain⟨e',he,O⟩:=DR hb;obtain⟨l1,l2,l3,rd,ok⟩:=ih h4 he rq;refine⟨CK l1,ω74 l2,CK l3,?_,λ y hy=>?_⟩
     ·have e:mL+1-(NK-R7)=mL-(NK-R7)+1:=ω10 l2;rw[GJ,GJ,GJ,g80,e,qT0,Ev,LW];exact⟨s,v,_,O,h1▸(DL h2).2.2,h1,ra,rd⟩
     ·rcases kA hy with O|hy
      ·exact⟨h2,h3⟩
      ·exact ok y hy
    |B0=>
     have hb:(r.S6 .B0).Y4 (.kv x d)=E0 O0:=hb;obtain⟨e',he,O⟩:=DR hb;obtain⟨l1,l2,l3,rd,ok⟩:=ih (L5:=[]) h4 he O;have l2:NK<=mL:=by rw[BU,ZW]at l2;exact l2
     refine⟨VN _,by rw[BU,ZW];exact CK l2,CK l3,?_,λ y hy=>?_⟩
     ·have e2:mL-(NK-0)=0:=ω27 l3;rw[BU,e2]at rd;rw[GJ,GJ,BU,C0.sub_zero,g80,ω27 l3,a90,R90,LW];exact⟨s,dv,_,O,h1▸(DL h2).2.2,h1,Ys ((O70 d).1 dv h5 h F5 bo zQ),rd⟩
     ·rcases kA hy with O|hy
      ·exact⟨h2,h3⟩
      ·exact ok y hy
def Yl:P0 C0->I1
 |[]=>I0
 |x::r=>!(r.K4 (Y1 x))&&Yl r
theorem DR0:∀{l:P0 u0},Yl (wP vc)=I0->l.JD:=by
 intro zq;induction zq with
 |B0=>
  intro _;exact ub
 |A0 x r ih=>
  intro h;have h:(!((xP vc).K4 (Y1 (vc x)))&&Yl (xP vc))=I0:=h;rw[N5,FP,E90]at h;exact JP.C8 ⟨λ q=>h.1 _ (HP ⟨x,q,O⟩) (oZ _),ih h.2⟩
def ak(w:N4)(v:K0):Q1 (P0 K0):=match v with
 |.H0=>E0 []
 |.J0 d=>bif Y6 d 944 then Oe (ob w d)else H0
 |_=>H0
theorem ER0{v:K0}{ds:P0 K0}(h:ak w v=E0 ds){s:D1}(bo:YD (S5 t) W0)(M:YB)(A:C6)(E:K0->D1->Prop)(Q:Q1 (M4 K0)->D1->Prop)(k:∀r,r.jI #[]=ds.P8->Q r s):V0 M A (Hm v) Q E s:=by
 cases v using LP with
 |H0=>
  obtain O:=I3 h;show V0 M A (L4 ()>>=λ _=>L4 H0) Q E s;exact S0 (E2 (E2 (k H0 O)))
 |J0 d=>
  obtain⟨hd,h⟩:=UC h;obtain⟨n,e⟩:=N70 h;have g:(S5 t).hf.X5 d=E0 _:=BP (u6 hd) e (by simp);exact DK (bo _ _ g (AR g (by simp)) (by simp) (by simp)) O (k _ O)
 |_=>contradiction
def U70(w:N4)(v:K0)(q:u0):I1:=match v with
 |.J0 c=>NZ.K4 (λ p=>Y1 p.1 c)&&Nl (ZJ w c 1)==q
 |_=>R0
theorem V70{v:K0}{q:u0}(h:U70 w v q=I0):(∀h,YD (S5 t) h->h.Ry v q)/\(S5 t).Ti v:=by
 cases v using LP with
 |J0 c=>
  symm;have h:(NZ.K4 (λ p=>Y1 p.1 c)&&Nl (ZJ w c 1)==q)=I0:=h;rw[N5]at h;obtain⟨⟨c',z⟩,hp,hq⟩:=va h.1;have hq:c'=c:=M6 hq;subst hq;obtain⟨_,_,c,o,vs,tk,e0,g,cc,d,r⟩:=Ke (w:=w) hp;ext;cases e0;symm;have g:=Bp _ _ g;have hq2:=dD h.2;ext;exact⟨λ h bo=>⟨_,o,vs,tk,O,bo _ _ g (AR g (by rw[cc];nofun)) (by rw[cc];nofun) (by rw[cc];nofun),d,hq2▸r⟩,_,z,O,hp⟩
 |_=>contradiction
def W70(L:z5):I1:=L.dA λ p=>match p.2 with|.j7=>R0|_=>I0
theorem FR0{L:z5}(h:W70 L=I0)(x:u0):G9 x≠E0 .j7:=λ q=>by
 have:=IR h _ (OU q);contradiction
def LT.M1{α:Type}(t:LT α):P0 (C0×α):=@xA0 α (λ _=>P0 (C0×α)) [] (λ k v _ _ a b=>(k,v)::(a++b)) t
theorem p90{α:Type}{d:α}{x:C0}:∀{t:LT α},cX d x=d\/(x,cX d x)∈t.M1:=by
 intro t;induction t with
 |B0=>exact .S2 O
 |S3 k v l r il ir=>
  show(@L8 (λ _=>α) (@L8 (λ _=>α) (Pg d x) (Og d x) (Y6 x k)) v (Y1 x k))=d\/(x,@L8 (λ _=>α) (@L8 (λ _=>α) (Pg d x) (Og d x) (Y6 x k)) v (Y1 x k))∈(k,v)::(l.M1++r.M1);cases hb:Y1 x k with
  |I0=>exact .L2 (by rw[M6 hb];exact aE ..)
  |R0=>
   cases Y6 x k using o7 with
   |I0=>exact il.QM id λ h=>AC _ (fT0 _ h)
   |R0=>exact ir.QM id λ h=>AC _ (UZ _ h)
def fd0:PH:={W2:="",OK:="",wC:=⟨[],[],H0,[],[],H0,[]⟩,P4:=.AE [],w8:=⟨.vW,[],R0,R0,[]⟩,dE:=0,jN:=[],PK:=.H0,iW:=.H0}
def PA(w:N4)(a:C0):PH:=match(oo w a).M3 with
 |.XG fd=>fd
 |_=>fd0
def fdR(fd:PH):PH:={fd with P4:=.AE (bK fd),jN:=[],dE:=OP,pF:=kW,wC:=⟨[],UR.L1,H0,[],UR.U90,H0,UR.PK⟩,w8:={GT with nL:=.sF,Id:=R0,Md:=R0}}
def X70(w:N4)(a:C0):D4:=⟨.U0 "function",(oo w a).H2,.XG (fdR (PA w a)),(oo w a).LC⟩
def Y70(w:N4)(p:Pm)(fd:PH):I1:=U70 w NX fd.OK&&(W70 wS&&(Yl ((UR.L1.Y4 (·.WG)).Y4 vc)&&(match ak w fd.PK with|E0 ds=>Wl w wS p (UR.L1.Y4 (·.WG)) ds|H0=>R0)))
def PZ(w:N4)(a:C0)(p:Pm):I1:=Y6 a 944&&Y70 w p (PA w a)
def ux(e:Y3):I1:=match e with
 |.fn _ _=>I0
 |.i7 _ _ _=>I0
 |_=>R0
def Pe:P0 C0:=[21,36,85,92,99,106,113,118,125,132,146,153,158,165,170,186,193,198,203,210,217,224,229,236,241,247,254,261,266,273,287,299,304,309,314,319,326,333,340,347,352,359,364,371,378,392,399,406,413,418,425,432,439,446,453,475,480,487,492,499,506,511,526,540,547,554,561,568,575,582,589,596,603,610,617,622,629,636,643,648,655,662,669,676,683,690,702,709,716,732,753,774,796,818,825,839,846,853,864,871,878,885,892,897,904,911,918,923,928,933,938,943]
theorem fnIn:D00 (λ a e=>bif ux e then e_ (Y1 a)else I0)=I0:=by kernel_rfl
theorem Z70(w:N4):Pe.Y4 (ob w)=Pe.Y4 λ a=>E0 (X70 w a):=by kernel_rfl
theorem Zl{a:C0}(h:e_ (Y1 a)=I0):a∈Pe:=by
 obtain⟨b,hb,q⟩:=va h;rw[M6 q];exact hb
theorem jl{a:C0}{p:Pm}{b:S}(ha:a∈Pe)(h:PZ w a p=I0)(hc:cS gF cl 40 (PA w a).w8.y7 (bK (PA w a))=b):∃fo:jQ (S5 t) gF cl a p b,fo.fd=PA w a/\SX=bK (PA w a):=by
 unfold PZ at h;rw[N5]at h;obtain⟨lt,h⟩:=h;have e:=YU (Z70 w) _ ha;have BR:PA w a=fdR (PA w a):=by
  show(match((ob w a).jI _).M3 with|.XG fd=>fd|_=>fd0)=_;rw[e];rfl
 have g:(S5 t).hf.X5 a=E0 _:=BP (u6 lt) e nofun;unfold X70 at g;rw[<-BR]at g;generalize PA w a=fd at *;unfold Y70 at h;rw[N5,N5,N5]at h;obtain⟨h8,h9,qX,OS⟩:=h;refine⟨{
  o:=_,fd:=fd,P4:=bK fd,o9:=g,Oj:=AR g nofun,O2:=O,M3:=O,Pu:=H6 PH.P4 BR,bA:=hc
  Qu:=H6 PH.jN BR,nL:=H6 (λ f=>f.ST) BR,co:=H6 (λ f=>f.w8.Md) BR,gen:=H6 (λ f=>f.w8.Id) BR
  dE:=H6 PH.dE BR,pF:=H6 PH.pF BR
  Ru:=(V70 h8).1,zc:=(V70 h8).2,Su:=FR0 h9,l6:=λ x hx=>⟨(x,.l6),OU hx,O,O⟩
  kD:=λ{G s L1 O0 L5} bo zQ hb hr=>?_},O,O⟩
 have hp:UR=⟨[],UR.L1,H0,[],UR.U90,H0,UR.PK⟩:=H6 PH.wC BR;cases xx:ak w fd.PK with
 |H0=>rw[xx]at OS;contradiction
 |E0 dv=>
  rw[xx]at OS;obtain⟨l1,l2,l3,rd,ok⟩:=CR0 bo zQ p OS hb hr;have:=J60 (s:=s) (L5:=L5) (H5:=dv.P8) hp (DR0 qX) (λ M A E Q k=>ER0 xx bo M A E Q k) (by rw[Hk]at l1;exact l1) (by rw[Hk]at l2;rw[nF];exact l2) (by rw[Hk]at l3;rw[nF];exact l3);rw[nF]at J2;refine⟨_,?_,λ x hx=>ok x.1 (P0.of_mem_zip hx).1,J2⟩;simpa using rd
def a70(w:N4)(a:C0)(e:Y3):I1:=match e with
 |.fn p _=>PZ w a p
 |.i7 _ p _=>PZ w a p
 |_=>I0
theorem GR0(w:N4):D00 (a70 w)=I0:=by kernel_rfl
def b70(e:Y3):Q1 S:=match e with
 |.fn _ b=>E0 b
 |.i7 _ _ b=>E0 b
 |_=>H0
def c70(w:N4)(p:C0×Y3):Q1 S:=match p.2 with
 |.fn _ _=>E0 (cS gF cl 40 (PA w p.1).w8.y7 (bK (PA w p.1)))
 |.i7 _ _ _=>E0 (cS gF cl 40 (PA w p.1).w8.y7 (bK (PA w p.1)))
 |_=>H0
theorem HR0(w:N4):hB0.Y4 (c70 w)=hB0.Y4 λ p=>b70 p.2:=by kernel_rfl
theorem yx{a:C0}{p:Pm}{b:S}(h:l7 a=.fn p b\/∃k,l7 a=.i7 k p b):∃fo:jQ (S5 t) gF cl a p b,fo.fd=PA w a/\SX=bK (PA w a):=by
 symm;have h1:l7 a=.no\/_:=En (d:=b_) (x:=a) (GR0 w);have h2:l7 a=.no\/_:=p90 (d:=b_) (x:=a) (t:=Si);have U7:∀e:Y3,l7 a=e->e≠.no->a70 w a e=I0/\c70 w (a,e)=b70 e:=λ e he hn=>by
  have hn:l7 a≠.no:=he▸hn;refine⟨?_,?_⟩
  ·rcases h1 with q|q
   ·exact U3 q hn
   ·rw[<-he];exact q
  ·rcases h2 with q|q
   ·exact U3 q hn
   ·have:=nr (HR0 w) _ q;rw[<-he];exact J2
 have mem:l7 a≠.no->ux (l7 a)=I0->a∈Pe:=λ hn hd=>by
  symm;have h3:l7 a=.no\/_:=En (d:=b_) (x:=a) fnIn;have h3:(bif ux (l7 a)then e_ (Y1 a)else I0)=I0:=h3.CV0 hn;rw[hd]at h3;ext;exact Zl h3
 rcases h with h|⟨k,h⟩
 ·obtain⟨x,y⟩:=U7 _ h nofun;ext;exact jl (mem (by rw[h];nofun) (by rw[h];rfl)) x (I3 y)
 ·obtain⟨x,y⟩:=U7 _ h nofun;ext;exact jl (mem (by rw[h];nofun) (by rw[h];rfl)) x (I3 y)
theorem IR0(t:QE w):bk (S5 t) gF cl TB:=λ a p b h=>by obtain⟨fo,_⟩:=yx h;exact⟨fo⟩
end
section
variable{w:World}{t:Top w}
def zx(f:C0->PV->I1)(l:PV):I1:=OI I0 (λ _ _=>I0) (λ k v ih=>f k v&&ih) l
theorem JR0{f:C0->PV->I1}:∀{l:PV},zx f l=I0->∀{k:C0}{v:PV},I4 k l=E0 v->f k v=I0:=by
 intro l;induction l with
 |kv k v r _ ih=>
  intro h x u e;have h:(f k v&&zx f r)=I0:=h;rw[N5]at h;rw[xH]at e
  split at e
  ·rename_i q;obtain O:=I3 e;rw[<-q];exact h.1
  ·exact ih h.2 e
 |_=>intro _ k v e;contradiction
theorem d70{a:C0}(h:Y6 a 944=I0)(e:e_ (Y1 a)=I0):a∉(S5 t).Z/\∃o,(S5 t).hf.X5 a=E0 o/\H4=.U0 "function":=by
 have g:(S5 t).hf.X5 a=E0 _:=BP (u6 h) (YU (Z70 w) _ (Zl e)) nofun;exact⟨AR g nofun,_,g,O⟩
def TJ(w:N4):P0 C0->Frag
 |[]=>[]
 |a::r=>match ob w a with|E0 o=>(a,o)::TJ w r|H0=>TJ w r
theorem KR0{a:C0}{o:D4}:∀{l:P0 C0},(TJ w l).e9 a=E0 o->ob w a=E0 o/\a∈l:=by
 intro zq;induction zq with
 |B0=>
  intro h;contradiction
 |A0 b r ih=>
  intro h;have h:(match ob w b with|E0 o=>(b,o)::TJ w r|H0=>TJ w r).e9 a=E0 o:=h;cases e:ob w b with
  |H0=>rw[e]at h;exact(ih h).QM id (AC _)
  |E0 o'=>
   rw[e]at h;have h:P0.e9 a ((b,o')::TJ w r)=E0 o:=h;rw[JR]at h;by_cases q:a=b
   ·subst q;rw[MW]at h;obtain O:=I3 h;exact⟨e,aE ..⟩
   ·rw[show(a==b)=R0 from beq_false_of_ne q]at h;exact(ih h).QM id (AC _)
def Ay:P0 (C0×C0×C0):=[(456,455,399),(693,692,561)]
def SN(p:C0×C0×C0):P0 C0:=[p.1,p.2.1,p.2.2]
theorem LR0(w:N4):J00 (λ p=>(SN p).Y4 λ a=>(ob w a).Y4 λ o=>(H4,Jm))=J00 λ _=>[E0 (.U0 "type",R0),E0 (.U0 "dict",R0),E0 (.U0 "function",R0)]:=by kernel_rfl
theorem MR0:Ay.dA (λ p=>(SN p).dA λ a=>Y6 a 944)=I0:=by kernel_rfl
theorem NR0{o:D4}(h:Jm=R0):I9≠.lz:=λ z=>by
 obtain⟨c,d,dt,sl⟩:=o;cases z;contradiction
theorem OR0{p:C0×C0×C0}(hp:p∈Ay)(h:O1)(bo:YD (S5 t) h):(TJ w (SN p)).In h:=λ a o e=>by
 obtain⟨e,m⟩:=KR0 e;have lt:=u6 (IR (IR MR0 _ hp) _ m);have hk:∃c,(H4,Jm)=(c,R0)/\(c=.U0 "type"\/c=.U0 "dict"\/c=.U0 "function"):=by
  have q:=YU (LR0 w) _ hp;have A9:E0 (H4,Jm)∈(SN p).Y4 (λ a=>(ob w a).Y4 λ o=>(H4,Jm)):=HP ⟨a,m,by rw[e];rfl⟩;rw[q]at A9;rcases kA A9 with x|A9
  ·exact⟨_,I3 x,.S2 O⟩
  ·rcases kA A9 with x|A9
   ·exact⟨_,I3 x,.L2 (.S2 O)⟩
   ·exact⟨_,I3 (vT A9),.L2 (.L2 O)⟩
 obtain⟨c,q,hc⟩:=hk;obtain⟨q1,q2⟩:=uZ q;have n:H4≠.H0/\H4≠.U0 "frame"/\H4≠.U0 "traceback":=by
  rw[q1];rcases hc with O|O|O<;>exact⟨nofun,by decide,by decide⟩
 have g:(S5 t).hf.X5 a=E0 o:=BP lt e (NR0 q2);exact bo _ _ g (AR g n.1) n.2.1 n.2.2
def frF(w:N4)(p:C0×C0×C0):=(u90 (TJ w (SN p)) p.1,WU (TJ w (SN p)) (.J0 p.1) jc,mA0 (TJ w (SN p)) (.J0 p.2.2),v90 (TJ w (SN p)) (.J0 p.2.2) "__get__",cA0 (TJ w (SN p)) (.J0 p.2.2),WU (TJ w (SN p)) (.J0 p.1) "__getattribute__",WU (TJ w (SN p)) (.J0 p.1) "__getattr__")
theorem PR0(w:N4):J00 (frF w)=J00 λ p=>(I0,E0 (E0 (.J0 p.2.2)),E0 (.U0 "function"),E0 (E0 (.Z4 "function.__get__")),E0 R0,E0 (E0 (.Z4 "object.__getattribute__")),E0 H0):=by kernel_rfl
def By(C:C0)(k:Cl):I1:=match I4 DY QI with
 |E0 v=>Ay.K4 λ p=>Y1 C p.1&&gM v (.Y0 p.2.2)
 |H0=>I0
theorem QR0{C:C0}{k:Cl}(h:By C k=I0)(a:C0)(ha:I4 DY QI=E0 (.Y0 a)):∃K:Frag,(∀h,YD (S5 t) h->K.In h)/\u90 K C=I0/\WU K (.J0 C) jc=E0 (E0 (.J0 a))/\mA0 K (.J0 a)=E0 (.U0 "function")/\
  v90 K (.J0 a) "__get__"=E0 (E0 (.Z4 "function.__get__"))/\cA0 K (.J0 a)=E0 R0/\WU K (.J0 C) "__getattribute__"=E0 (E0 (.Z4 "object.__getattribute__"))/\WU K (.J0 C) "__getattr__"=E0 H0:=by
 unfold By at h;rw[ha]at h;obtain⟨p,hp,q⟩:=va h;have q:(Y1 C p.1&&gM (.Y0 a) (.Y0 p.2.2))=I0:=q;rw[N5]at q;obtain O:=M6 q.1;obtain O:a=p.2.2:=M6 q.2;have e:=YU (PR0 w) _ hp;unfold frF at e;simp only[hU0]at e;exact⟨_,OR0 hp,e⟩
def uT(w:N4)(N:C0)(x:u0):I1:=(mN w N x).fE
theorem e70{N:C0}{c:K0}(h:(N,c)∈CP){x:u0}(h0:vc x≠0):mN w N x=RN (lP (QN w N)) (vc x):=(P70 (jx h).2 h0).U2 (Q70 _ _)
def JW(v:Q1 K0)(a:C0):I1:=match v with
 |E0 (.J0 b)=>Y1 b a
 |_=>R0
theorem Qe{v:Q1 K0}{a:C0}(h:JW v a=I0):v=E0 (.J0 a):=by
 cases v using i9 with
 |H0=>contradiction
 |E0 v=>
  cases v using LP with
  |J0 b=>rw[M6 (h:Y1 b a=I0)]
  |_=>contradiction
theorem RR0{k:C0}{v:K0}:∀{l:P0 (C0×K0)},RN l k=E0 v->(k,v)∈l:=by
 intro zq;induction zq with
 |B0=>
  intro h;contradiction
 |A0 pq r ih=>
  intro h;obtain⟨j,u⟩:=pq;have h:@L8 (λ _=>Q1 K0) (RN r k) (E0 u) (Y1 j k)=E0 v:=h;cases hb:Y1 j k with
  |I0=>rw[hb]at h;obtain O:=I3 h;rw[M6 hb];exact aE ..
  |R0=>rw[hb]at h;exact AC _ (ih h)
def L7:GW0:={W2:="",sy:=[],Wg:=[],ns:=0,OK:=""}
def BA(w:N4)(a:C0):GW0:=match(oo w a).M3 with
 |.O2 cd=>cd
 |_=>L7
def DP(w:N4)(a i:C0):Q1 K0:=(oo w a).LC.bE.jI i H0
def ql(w:N4)(a:C0)(m:P0 K0)(ab:I1)(nw:V6):D4:=
 PP (BA w a).W2 (BA w a).OK a (BA w a).ns (BA w a).sy m I0 (BA w a).HW0 (BA w a).i90 ab (BA w a).kV0 (oo w a).H2 (DP w a 0) (DP w a 1) (DP w a 2) (DP w a 3) (DP w a 5) nw
def f70(x:I1)(e:Y3):I1:=match e with
 |.O2 k=>PI==x
 |_=>R0
def QZ(x:I1):P0 C0:=(hB0.Xm λ p=>f70 x p.2).Y4 (·.1)
theorem SR0(w:N4):(QZ R0).Y4 (ob w)=(QZ R0).Y4 λ a=>E0 (ql w a [.U0 "object"] R0 "object.__new__"):=by kernel_rfl
theorem TR0(w:N4):(QZ I0).Y4 (ob w)=(QZ I0).Y4 λ a=>E0 (ql w a (.J0 39::EF) (BA w a).Oy "Exception.__new__"):=by kernel_rfl
theorem g70(w:N4):ob w 39=E0 (ql w 39 EF (BA w 39).Oy "Exception.__new__"):=by kernel_rfl
theorem h70{a:C0}{k:Cl}(h:l7 a=.O2 k):a∈QZ PI:=by
 have h2:l7 a=.no\/_:=p90 (d:=b_) (x:=a) (t:=Si);refine HP ⟨_,ZU0 ⟨h2.CV0 λ q=>?_,?_⟩,O⟩
 ·rw[h]at q;contradiction
 ·show f70 PI (l7 a)=I0;rw[h];exact MW _
theorem i70{C N:C0}(h:LB0 (λ p=>Y1 p.2 N)=I0):(N,.U0 "dict")∈CP:=by
 obtain⟨p,hp,q⟩:=va h;exact .x7 _ (.x7 _ (.x7 _ (HP ⟨p,hp,by rw[M6 q]⟩)))
def UR0(w:N4)(N:C0)(c:C0)(v:PV):I1:=match v with
 |.Y0 a=>Y6 a 944&&(e_ (Y1 a)&&JW (RN (lP (QN w N)) c) a)
 |_=>I0
def Se(w:N4)(C:C0)(k:Cl):I1:=Y6 C 944&&(LB0 (λ p=>Y1 p.2 (BA w C).ns)&&
  ((lP (QN w (BA w C).ns)).dA (λ p=>(I4 p.1 QI).AM)&&(zx (UR0 w (BA w C).ns) QI&&
  (uT w (BA w C).ns "__getattribute__"&&(uT w (BA w C).ns "__getattr__"&&(uT w (BA w C).ns "__setattr__"&&(JW (mN w (BA w C).ns "__init__") fP&&(Y6 fP 944&&(e_ (Y1 fP)&&By C k)))))))))
theorem VR0{C:C0}{k:Cl}(hm:C∈QZ R0)(h:Se w C k=I0):Ly (jY (S5 t) C k):=by
 unfold Se at h;simp only[N5]at h;obtain⟨lt,h5,h6,h7,h8,h9,AW,qX,OS,jd,Cy⟩:=h;have hN:=i70 (C:=C) h5;have g:(S5 t).hf.X5 C=E0 _:=BP (u6 lt) (YU (SR0 w) _ hm) nofun;exact⟨{
  nm:=_,q:=_,N:=(BA w C).ns,bs:=_,sn:=_,w0:=_,YJ:=_,dd:=_,k0:=_,k1:=_,k2:=_,k3:=_,k5:=_,mN:=mN w (BA w C).ns
  o9:=g,Oj:=AR g nofun,ns:=sQ hN
  oP:=λ x h0 hm=>by
   rw[e70 hN h0];cases hc:RN (lP (QN w (BA w C).ns)) (vc x)with
   |H0=>rfl
   |E0 v=>
    have J2:(I4 (vc x) QI).AM=I0:=IR h6 _ (RR0 hc);rw[hm]at J2;contradiction
  Sb:=λ x a h0 hm=>by
   have J2:(Y6 a 944&&(e_ (Y1 a)&&JW (RN (lP (QN w (BA w C).ns)) (vc x)) a))=I0:=JR0 h7 hm;rw[N5,N5]at J2;exact⟨by rw[e70 hN h0];exact Qe J2.2.2,d70 J2.1 J2.2.1⟩
  ga:=hY h8,gh:=hY h9,sa:=hY AW
  E_:=⟨Qe qX,d70 OS jd⟩
  S6:=QR0 Cy}⟩
def EC(w:N4)(a:C0):XK:=⟨(BA w a).W2,(BA w a).OK,a,(BA w a).ns,(BA w a).sy,(BA w a).HW0,(BA w a).i90,(BA w a).Oy,(BA w a).kV0,(oo w a).H2,DP w a 0,DP w a 1,DP w a 2,DP w a 3,DP w a 5,mN w (BA w a).ns⟩
def KW(w:N4)(a:C0):I1:=Y6 a 944&&(LB0 (λ p=>Y1 p.2 (BA w a).ns)&&MN.dA (uT w (BA w a).ns))
theorem Dy{a:C0}{m:P0 K0}(e:ob w a=E0 (ql w a m (BA w a).Oy "Exception.__new__"))(h:KW w a=I0):
  (∀h,YD (S5 t) h->C3 a=E0 (PP (EC w a).nm (EC w a).q a (EC w a).N (EC w a).bs m I0 (EC w a).sn (EC w a).w0 (EC w a).ab (EC w a).YJ (EC w a).dd (EC w a).k0 (EC w a).k1 (EC w a).k2 (EC w a).k3 (EC w a).k5 "Exception.__new__")/\
   eH (EC w a).N (EC w a).mN)/\∀n∈MN,(EC w a).mN n=H0:=by
 unfold KW at h;rw[N5,N5]at h;obtain⟨lt,h4,h5⟩:=h;have g:(S5 t).hf.X5 a=E0 _:=BP (u6 lt) e nofun;exact⟨λ h bo=>⟨bo _ _ g (AR g nofun) (show aL "type"≠.U0 "frame" by trivial) (show aL "type"≠.U0 "traceback" by trivial),sQ (i70 (C:=a) h4) h bo⟩,λ n hn=>hY (IR h5 n hn)⟩
def j70(w:N4)(a:C0)(e:Y3):I1:=match e with
 |.O2 k=>@L8 (λ _=>I1) (Se w a k) (KW w a&&(uT w (EC w a).N "__init__"&&!(Y1 a 39))) PI
 |_=>I0
theorem Ey(w:N4):(D00 (j70 w)&&KW w 39)=I0:=by kernel_rfl
theorem l70{a:C0}{k:Cl}(h:l7 a=.O2 k):j70 w a (.O2 k)=I0:=by
 have h1:=Ey w;rw[N5]at h1;have h1:l7 a=.no\/_:=En (d:=b_) (x:=a) h1.1;rcases h1 with q|q
 ·rw[h]at q;contradiction
 ·rw[<-h];exact q
theorem WR0(t:QE w):aD (S5 t) TB:=λ c k h hk=>by
 symm;have J2:@L8 (λ _=>I1) (Se w c k) (KW w c&&(uT w (EC w c).N "__init__"&&!(Y1 c 39))) PI=I0:=l70 (w:=w) h;rw[hk]at J2;ext;exact VR0 (hk▸h70 h) J2
def m70(t:QE w):ZE (S5 t) TB where
 l:=EC w 39
 leaf c hc:=by
  unfold Y9 at hc;cases h:nP c with
  |O2 k=>
   rw[h]at hc;have hc:PI=I0:=hc;have J2:@L8 (λ _=>I1) (Se w c k) (KW w c&&(uT w (EC w c).N "__init__"&&!(Y1 c 39))) PI=I0:=l70 (w:=w) h;rw[hc]at J2;have J2:(KW w c&&(uT w (EC w c).N "__init__"&&!(Y1 c 39)))=I0:=J2;rw[N5,N5,FP]at J2;obtain⟨t1,t2,t3⟩:=J2;obtain⟨x1,x4⟩:=Dy (t:=t) (YU (TR0 w) _ (hc▸h70 h)) t1;obtain⟨y1,_⟩:=Dy (t:=t) (g70 w) (Bi (Ey w)).2;exact⟨EC w c,O,tA t3,λ h bo=>⟨(x1 h bo).1,(y1 h bo).1,(x1 h bo).2,(y1 h bo).2⟩,hY t2,x4⟩
  |_=>rw[h]at hc;contradiction
 VN0:=(Dy (t:=t) (g70 w) (Bi (Ey w)).2).2
def pmI:Pm:=.N1 (vc "self") (.N1 (vc "message") (.XN (vc "spot") (.j0 (.O4 0)) .B0))
theorem XR0:l7 36=.fn pmI Js:=by kernel_rfl
def n70(L:z5):I1:=n7 L "self"&&(n7 L "message"&&(n7 L "spot"&&E7 L "Exception"))
theorem YR0(w:N4):bK (PA w 36)=y50 ⟨8,8,8,17⟩ ⟨8,8,8,26⟩ ⟨8,27,8,31⟩ ⟨8,33,8,40⟩ ⟨8,8,8,41⟩ ⟨8,8,8,41⟩ ⟨9,8,9,12⟩ ⟨9,8,9,20⟩ ⟨9,23,9,30⟩ ⟨9,8,9,30⟩ ⟨10,8,10,12⟩ ⟨10,8,10,17⟩ ⟨10,20,10,24⟩ ⟨10,8,10,24⟩:=by kernel_rfl
theorem ZR0(w:N4):(n70 (PA w 36).w8.y7&&JW (mN w (EC w 39).N "__init__") 36)=I0:=by kernel_rfl
theorem aR0(w:N4):(n7 (PA w 36).w8.y7 "self"=I0/\n7 (PA w 36).w8.y7 "message"=I0/\n7 (PA w 36).w8.y7 "spot"=I0/\E7 (PA w 36).w8.y7 "Exception"=I0)/\mN w (EC w 39).N "__init__"=E0 (.J0 36):=by
 have:=ZR0 w;unfold n70 at J2;rw[N5,N5,N5,N5]at J2;exact⟨J2.1,Qe J2.2⟩
def bR0(t:QE w):AK (Vl t) cl (m70 t):=
 have h:=yx (w:=w) (.S2 XR0);have i:=aR0 w
 {ini:=36,Bw:=i.2,p:=pmI,b:=Js,fo:=HA0,pm:=O
  P4:=⟨_,_,_,_,_,_,_,_,_,_,_,_,_,_,jZ.2.U2 (YR0 w),O⟩
  Cw:=by rw[jZ.1];exact i.1.1
  kN0:=by rw[jZ.1];exact i.1.2.1
  Dw:=by rw[jZ.1];exact i.1.2.2.1
  Ew:=by rw[jZ.1];exact i.1.2.2.2
  K8:=xQ0}
theorem sA0:attrs.dA (EH "object")=I0:=by kernel_rfl
theorem cR0:AF:=λ x h=>by
 unfold pD at h;rw[N5]at h;obtain⟨y,hy,e⟩:=va h.1;rw[<-dD e];exact oP (IR sA0 y hy)
def GC(t:QE w):VM (S5 t) gF cl TB:=⟨Vl t,BR0 t,m70 t,bR0 t,WR0 t,cR0,IR0 t,O⟩
theorem dR0:l7 846=.i7 0 (.N1 BC (.N1 YV .B0)) Ri:=by kernel_rfl
theorem eR0(w:N4):bK (PA w 846)=H.fB (pU 72):=by kernel_rfl
theorem fR0(w:N4):(PA w 846).w8=en (pU 72):=by kernel_rfl
def gR0(t:QE w):Ie (GC t):=
 have h:=yx (w:=w) (.L2 ⟨_,dR0⟩)
 ⟨HA0,jZ.2.U2 (eR0 w),(H6 (·.w8) jZ.1).U2 (fR0 w),S70⟩
theorem o70(t:QE w)(m:C0):Lv (S5 t) gF cl (m+110) (nD HB TB m):=dQ0 (GC t) (gR0 t) m
end
section
variable{B:Bs}{A:Around}{G G0 G1 G2:Gh}{s s':Shared}{F:Addr->Prop}{n:Nat}{ih:C5}{T:Tab}{cenv:Env}{L:Kinds}{env:PV}
variable{g:Nat->Option PV}{cl:Nat->Nat}
theorem Fy{FZ:C0->I1}{f:C1->C}{x:u0}{tp:T3}(h:(A5 x&&z6 L x)=I0){v:PV}{σ:K1}:(aC FZ T ih (cT L f (.u3 x tp)) v O0 σ).P1 (λ e c5=>e=A6 (vc x) v O0/\c5=σ) λ _ _=>J6:=by
 have:cT L f (.u3 x tp)=.F0 (vc x):=by
  show(bif A5 x&&z6 L x then C.F0 (vc x)else .M2)=_;rw[h];rfl
 rw[J2];exact⟨O,O⟩
theorem hR0(CT:aD B T)(ON:AF)(HE:z7 B g cl n ih){x:u0}{tp:T3}{P4:P0 P5}{v:K0}{W:P0 H1}{R:BM->D1->Prop}{m:C0}(hx:(A5 x&&z6 L x)=I0){J:C0->K1->PV->Prop}
  (hb:∀j G1 s1 BI,j<m->J j qF BI->G5 B n A N0 L (A6 (vc x) (iU (.O4 j)) BI) G1 s1->V0 R2 A (mC P4 N0) (λ f s2=>f=.W4/\∃G2 V8,A3 B (D5 N0 L) G1 s1 G2 s2/\J1 B A G2 s2/\V5 B N0 D0 V8 G2 TN/\J (j+1) XR V8) (λ _ _=>J6) s1):
  ∀(d j:C0),j+d=m->∀{G:Gh}{s:D1}{O0:PV},G5 B n A N0 L O0 G s->AH G W0 (.jG j m) v W->AI B G W0 N0 W->J j R1 O0->
   (∀G' s' W9,A3 B (DF N0 L W) G s G' s'->J1 B A G' s'->V5 B N0 D0 W9 G' U6->J m wF W9->R (.ok .W4) s')->JC R2 A (.fe (.u3 x tp) v P4 [] N0) R s:=by
 intro d;induction d with
 |K9=>
  intro j hj G s O0 X ia qP hJ hR;have hj:j=m:=by omega
  subst hj;refine Ov (mj xn ZB ia B00 (λ q=>by contradiction) (f:=λ o=>W1 o) (P:=λ o σ=>o=H0/\σ=R1) (X:=λ _ _=>J6) (by
   show(F1 (bif Y6 j j then W1 (E0 (iU (.O4 j),gU (j+1) j))else W1 A2) (λ o=>W1 o) R1).P1 _ _;have:Y6 j j=R0:=by
    cases h:Y6 j j with
    |R0=>rfl
    |I0=>exact U3 (u6 h) (C0.not_succ_le_self j)
   rw[J2];exact⟨O,O⟩) (λ s1 C2 g1 hf=>?_) λ s1 p u a' C2 g1 ru pa Wv hf=>(nomatch hf.1))
  exact hR G s1 O0 (iC λ b q=> .L2 q) g1 (X.Ga C2 Af M_) hJ
 |J9 d ihd=>
  intro j hj G s O0 X ia qP hJ hR;have lt:j<m:=by exact ω83 ‹_›
  refine Ov (mj xn ZB ia B00 (λ q=>by contradiction) (f:=λ o=>W1 o) (P:=λ o σ=>o=E0 (iU (.O4 j),gU (j+1) m)/\σ=R1) (X:=λ _ _=>J6) (by
   show(F1 (bif Y6 j m then W1 (E0 (iU (.O4 j),gU (j+1) m))else W1 A2) (λ o=>W1 o) R1).P1 _ _;have:Y6 j m=I0:=f80 lt;rw[J2];exact⟨O,O⟩) (λ s1 C2 g1 hf=>(nomatch hf.1)) λ s1 p u a' C2 g1 ru pa Wv hf=>?_)
  have hf:E0 (p,a')=E0 (iU (.O4 j),gU (j+1) m):=hf.1;cases hf;have D9:V5 B N0 D0 O0 G pE:=X.Ga C2 Af M_;have Xa:G5 B n A N0 L O0 G s1:=⟨iD,WB,g1,D9⟩;have pe:AI B G pE N0 W:=qP.K6 C2;refine V3 ((Tv (FZ:=HB) (k:=0) CT ON HE Xa ru) _ _ (Fy hx)) ?_ λ e s' Z2=>by obtain⟨_,_,_,_,_,h⟩:=Z2;exact u4
  intro _ s2 Z2;obtain⟨G2,V8,I2,g2,R6,Xd,kH⟩:=Z2;subst Xd;have c9:A3 B (DF N0 L W) G s G2 s2:=(iC λ b q=> .L2 q).U2 (sL λ b q=> .S2 q);refine V3 (hb j G2 s2 O0 lt (by rw[kH];exact hJ) ⟨iD,WB,g2,R6⟩) ?_ λ _ _ h=>u4;intro f s3 Z2;obtain⟨hf,G3,tO,U5,g3,sD,hJ3⟩:=Z2;subst hf;have rD:=(UP U5);exact ihd (j+1) (by exact ω55 ‹_›) ⟨iD,WB,g3,sD⟩ (YB0 rD λ b hb=>⟨ZB0 b hb,aB0 b hb⟩) (pe.K6 rD) hJ3 λ G' s' W9 SA g' DH hJ'=>hR G' s' W9 (c9.U2 ((i00 λ b q=> .S2 q).U2 SA)) g' DH hJ'
theorem p70(BF:S7 B g)(CT:aD B T)(ON:AF)(HE:z7 B g cl n ih){x:u0}{a:C1}{p q D2 tp:T3}{P4 J4:P0 P5}{m:C0}(hm:m<=60)(hx:(A5 x&&z6 L x)=I0)(hg:E7 L "range"=I0)(ha:Q8 a=I0)
  (X:G5 B n A N0 L O0 G s)(ev:S9 B A N0 G O0 a m){J:C0->K1->PV->Prop}(h0:J 0 R1 O0)
  (hb:∀j G1 s1 BI,j<m->J j qF BI->G5 B n A N0 L (A6 (vc x) (iU (.O4 j)) BI) G1 s1->V0 R2 A (mC P4 N0) (λ f s2=>f=.W4/\∃G2 V8,A3 B (D5 N0 L) G1 s1 G2 s2/\J1 B A G2 s2/\V5 B N0 D0 V8 G2 TN/\J (j+1) XR V8) (λ _ _=>J6) s1)
  {KO:OJ->D1->Prop}{OG:K0->D1->Prop}
  (hr:∀G2 s2 V8,A3 B (D5 N0 L) G s G2 s2->J1 B A G2 s2->V5 B N0 D0 V8 G2 TN->J m XR V8->V0 R2 A (mC J4 N0) KO OG s2):
  V0 R2 A (mC (.eX (.u3 x tp) (.C7 (.u3 "range" p) [a] [] q) P4 [] D2::J4) N0) KO OG s:=by
 refine AB (CW0 ?_ λ _=>O);refine mM (jV BF MI ZB (CO "range" (.U0 "range") (OL (i:=9) O)) hg (by decide) ?_);have E4:[a].dA Q8=I0:=by simp[ha]
 refine AJ (by rw[IL E4];rfl) (BJ E4 ?_);rw[zI ha];refine zD (V3 (ev s _ ZB VR) ?_ λ _ _ h=>h);intro v s1 Z2;obtain⟨⟨t,e⟩,C2,g1⟩:=Z2;subst e;refine JJ ⟨GN,?_⟩;refine P90 ?_;refine JT0 (q90 ..) (AA0 (by decide) (by decide) (by exact PL _) (by omega)) ?_;have Z7:x80 0 (m:B2) 1=(m:B2):=by
  rw[K90]
  split
  ·simp
  ·exact ω30 ‹_›
 rw[Z7];have hk:∀b o,IJ b=E0 o->((XL {O2:=.U0 "range",M3:=.T5 #[.j0 0 oA,.j0 (m:B2) t,.j0 1 (oA+1)]}).y6 {O2:=.U0 "range_iterator",M3:=.T5 #[j5 0,j5 (m:B2),j5 1]}).X5 b=E0 o:=λ b o e=>vA _ _ _ _ (vA _ _ _ _ e);have D7:ml ((XL {O2:=.U0 "range",M3:=.T5 #[.j0 0 oA,.j0 (m:B2) t,.j0 1 (oA+1)]}).y6 {O2:=.U0 "range_iterator",M3:=.T5 #[j5 0,j5 (m:B2),j5 1]}) (E9+1) ((0:C0):B2) ((m:B2)-((0:C0):B2)) 1:=by
  have:=DA (XL {O2:=.U0 "range",M3:=.T5 #[.j0 0 oA,.j0 (m:B2) t,.j0 1 (oA+1)]}) (o:={O2:=.U0 "range_iterator",M3:=.T5 #[j5 0,j5 (m:B2),j5 1]}) O;rw[bD]at J2;simpa using J2
 have sz:(XL {O2:=.U0 "range",M3:=.T5 #[.j0 0 oA,.j0 (m:B2) t,.j0 1 (oA+1)]}).SC.L9=E9+1:=bD ..;rw[sz];obtain⟨g2,I2⟩:=GB0 (tk:=oA+1+1) hk;have R6:=(iL C2).XZ I2;have Uv:∀b∈[E9+1],x8 B G ((XL {O2:=.U0 "range",M3:=.T5 #[.j0 0 oA,.j0 (m:B2) t,.j0 1 (oA+1)]}).y6 {O2:=.U0 "range_iterator",M3:=.T5 #[j5 0,j5 (m:B2),j5 1]}) b:=
  wV (LX (G:=G) g1 (QG _ _) ⟨_,D7⟩)
 have gone:∀b∈[E9+1],IJ b=H0:=wV (xV (QG _ _));have qP:AI B G ((XL {O2:=.U0 "range",M3:=.T5 #[.j0 0 oA,.j0 (m:B2) t,.j0 1 (oA+1)]}).y6 {O2:=.U0 "range_iterator",M3:=.T5 #[j5 0,j5 (m:B2),j5 1]}) N0 [E9+1]:=by
  have D9:=iL C2;refine⟨Uv,λ q=>?_,λ y c hc q=>?_⟩
  ·obtain⟨m,⟨o,_,_,e,_⟩,_⟩:=D9.ns;rw[gone _ q]at e;contradiction
  ·obtain⟨u,o,e,_⟩:=D9.ai y c hc;rw[gone _ q]at e;contradiction
 have c9:A3 B (D5 N0 L) G s G s1:=iC λ _ q=>Q6;refine hR0 CT ON HE (W:=[E9+1]) (m:=m) hx (J:=J) hb m 0 (by exact ZW _) (G:=G) (O0:=O0) ⟨iD,WB,g2,R6⟩ ⟨_,O,O,D7⟩ qP h0 λ G' s' W9 SA g' DH hJ'=>?_;refine hr G' s' W9 ?_ g' DH hJ';refine c9.U2 (A3.TF (F:=DF N0 L [E9+1]) ((sL λ _ q=>Q6).U2 SA) λ b hb=>hb.QM id λ q=>gone b q)
end
section
variable{B:Bs}{A:Around}{G G0 G1 G2:Gh}{s s':Shared}{F:Addr->Prop}{n:Nat}{ih:C5}{T:Tab}{cenv:Env}{L:Kinds}{env:PV}
variable{g:Nat->Option PV}{cl:Nat->Nat}
def RZ(B:Bs)(l:C0)(xs:P0 B2):Prop:=∃vs:P0 K0,VH.Am l OB/\R7=bC/\(∀(i:C0)(x:B2),xs[i]?=E0 x->∃t,(vs[i]?:Q1 K0)=E0 (K0.j0 x t))/\l∉GG
theorem RZ.at{h:O1}{l:H1}{vs:M4 K0}(e:VH.Am l vs)(hz:l∉GG)(bo:YD B h):Ky l vs:=
 let⟨o,ho,hc,r⟩:=e;⟨o,bo _ _ ho hz (by rw[hc];simp) (by rw[hc];simp),hc,r⟩
theorem q70(BF:S7 B g)(ES:n9 N0 L){l:C0}{xs:P0 B2}(hs:RZ B l xs)(FM:bC<2^62){x:u0}{p1 p2 p3:T3}(hn:A5 x=I0)(hl:n7 L x=I0)(hg:E7 L "len"=I0)(hv:I4 (vc x) O0=E0 (.Y0 l)):
  S9 B A N0 G O0 (.C7 (.u3 "len" p1) [.u3 x p2] [] p3) bC:=λ s E gd er=>by
 obtain⟨vs,e,fH,_,hz⟩:=hs;have e:=RZ.at e hz IC;refine mM (jV BF ES gd (CO "len" (.Z4 "len") (OL (i:=0) O)) hg (by decide) ?_);refine AJ (by rw[IL (by rfl)];rfl) (BJ (by rfl) ?_);refine zD (uI ES er hn hl hv λ u ru=>JJ ⟨sV,?_⟩);have ru:u=.J0 l:=ru;subst ru;refine WU0 e (by rw[nF,fH];omega) ?_;rw[nF,fH];exact⟨⟨_,O⟩,(NJ _).2,(NJ _).1⟩
theorem r70{f:u0}{id:V6}(BF:S7 B g)(ES:n9 N0 L)(TA:VF f=H0/\UJ f=E0 (.Z4 id))(hd:(f==("__debug__":u0))=R0)(hg:E7 L f=I0){a b:C1}{p1 p2:T3}(ha:Q8 a=I0)(hb:Q8 b=I0){i j z:B2}(e1:S9 B A N0 G O0 a i)(e2:S9 B A N0 G O0 b j)
  (sX:∀(s:D1)(t u:P6)(Q E:K0->D1->Prop),(∀h' tk t',(∀c o,F3 c=E0 o->D3 c=E0 o)->Q (.j0 z t') {s with B3:=h',B4:=tk})->V0 R2 A (X7 (.Z4 id) [.j0 i t,.j0 j u]) Q E s):
  S9 B A N0 G O0 (.C7 (.u3 f p1) [a,b] [] p2) z:=λ s E gd er=>by
 refine mM (jV BF ES gd TA hg hd ?_);have E4:[a,b].dA Q8=I0:=by simp[ha,hb]
 refine AJ (by rw[IL E4];rfl) (BJ E4 ?_);rw[zI ha,zI hb];refine zD (V3 (e1 s _ gd er) (λ v s1 ⟨⟨t,ev⟩,C2,g1⟩=>?_) λ _ _ h=>h);subst ev;refine zD (V3 (e2 s1 _ g1 (HI C2)) (λ v s2 ⟨⟨u,ev⟩,I2,g2⟩=>?_) λ _ _ h=>h);subst ev;refine JJ ⟨sV,sX s2 t u _ _ λ h' tk t' k=>?_⟩;obtain⟨g3,U5⟩:=IB0 (tk:=tk) k;exact⟨⟨_,O⟩,(FC I2).U2 U5,g3⟩
theorem s70(BF:S7 B g)(hh:F9=H0)(ES:n9 N0 L)(TA:VF "max"=H0/\UJ "max"=E0 (.Z4 "max"))(hg:E7 L "max"=I0){a b:C1}{p1 p2:T3}(ha:Q8 a=I0)(hb:Q8 b=I0){i j:B2}(e1:S9 B A N0 G O0 a i)(e2:S9 B A N0 G O0 b j):
  S9 B A N0 G O0 (.C7 (.u3 "max" p1) [a,b] [] p2) (if j>i then j else i):=
 r70 BF ES TA (by decide) hg ha hb e1 e2 λ s t u Q E h=>EP.max_two_ints hh λ h' tk k=>by
  by_cases q:j>i
  ·rw[y3 q]at h ⊢;exact h h' tk u k
  ·rw[w3 q]at h ⊢;exact h h' tk t k
theorem iR0(BF:S7 B g)(hh:F9=H0)(ES:n9 N0 L)(TA:VF "min"=H0/\UJ "min"=E0 (.Z4 "min"))(hg:E7 L "min"=I0){a b:C1}{p1 p2:T3}(ha:Q8 a=I0)(hb:Q8 b=I0){i j:B2}(e1:S9 B A N0 G O0 a i)(e2:S9 B A N0 G O0 b j):
  S9 B A N0 G O0 (.C7 (.u3 "min" p1) [a,b] [] p2) (if j<i then j else i):=
 r70 BF ES TA (by decide) hg ha hb e1 e2 λ s t u Q E h=>EP.min_two_ints hh λ h' tk k=>by
  by_cases q:j<i
  ·rw[y3 q]at h ⊢;exact h h' tk u k
  ·rw[w3 q]at h ⊢;exact h h' tk t k
theorem jR0{e:C1}{p:T3}{i:B2}(h:S9 B A N0 G O0 e i):S9 B A N0 G O0 (.fD .uP e p) (-i):=λ s E gd er=>
 cv (V3 (h s E gd er) (λ v s1 ⟨⟨t,ev⟩,C2,g1⟩=>by
  subst ev;exact eM.eA0 ⟨⟨_,O⟩,FC (T00 _).2,(T00 _).1⟩) λ _ _ h=>h)
theorem kR0(ES:n9 N0 L){l:C0}{xs:P0 B2}(hs:RZ B l xs){x y:u0}{p1 p2 p3:T3}(hn:A5 x=I0)(hl:n7 L x=I0)(hv:I4 (vc x) O0=E0 (.Y0 l))(iX:A5 y=I0)(SM:n7 L y=I0){k:C0}(lX:I4 (vc y) O0=E0 (.j0 k)){z:B2}(hk:k<2^62)(hz:xs[k]?=E0 z):
  S9 B A N0 G O0 (.BD (.u3 x p1) (.u3 y p2) p3) z:=λ s E gd er=>by
 obtain⟨vs,e,fH,E8,hZ⟩:=hs;have e:=RZ.at e hZ IC;obtain⟨t,ht⟩:=E8 k z hz;refine lY (uI ES er hn hl hv λ u ru=>uI ES er iX SM lX λ u2 zz=>DM zz λ t2 e2=>?_);have ru:u=.J0 l:=ru;subst ru e2;exact⟨_,_,e.AD,vr,ET0 e (by exact PL _) (by omega) (by simpa using ht) ⟨⟨t,O⟩,.M5 ..,gd⟩⟩
theorem lR0{op:jE}{a b:C1}{p:T3}{i j:B2}{c:I1}{ZU:Y7 K0}(hm:lv op b=R0)(e1:S9 B A N0 G O0 a i)(e2:S9 B A N0 G O0 b j)
  (sX:∀(s:D1)(t u:P6)(Q E:K0->D1->Prop),Q (.O3 c) s->V0 R2 A (ZN op (.j0 i t) (.j0 j u)) Q E s)(gd:J1 B A G s)(er:V5 B N0 D0 O0 G W0){K:I1->D1->Prop}{E:K0->D1->Prop}
  (hK:∀s1,A3 B N2 G s G s1->J1 B A G s1->K c s1):V0 R2 A (WH (.aP a [op] [b] p) N0 ZU) K E s:=
 W80 (V3 (e1 s _ gd er) (λ v s1 ⟨⟨t,ev⟩,C2,g1⟩=>by
  subst ev;exact V3 (e2 s1 _ g1 (HI C2)) (λ v s2 ⟨⟨u,ev⟩,I2,g2⟩=>by
   subst ev;exact sX s2 t u _ _ (bj (hK s2 (FC I2) g2))) λ _ _ h=>h) λ _ _ h=>h) hm
end
section
variable{B:Bs}{A:Around}{G G0 G1 G2:Gh}{s s':Shared}{F:Addr->Prop}{n:Nat}{ih:C5}{T:Tab}{cenv:Env}{L:Kinds}{env:PV}{w:World}
def t70:P0 P5:=[.PF [(eN "cell" 728 4 8)] (.aU (eQ .Lt (eN "k" 728 24 25) (eC (eN "len" 728 28 31) [(eN "script" 728 32 38)] 728 28 39) 728 24 39) (eS (eN "script" 728 11 17) (eN "k" 728 18 19) 728 11 20) (eI 0 728 45 46) ⟨728,11,728,46⟩) ⟨728,4,728,46⟩,
 .PF [(eN "big" 729 4 7)] (eC (eN "max" 729 10 13) [(eC (eN "int" 729 14 17) [(eN "cell" 729 18 22)] 729 14 23),(eC (eN "int" 729 25 28) [(eO .FG (.fD .uP (eI 1 729 30 31) ⟨729,29,729,31⟩) (eN "cell" 729 34 38) 729 29 38)] 729 25 39)] 729 10 40) ⟨729,4,729,40⟩,
 .PF [(eN "mixed" 730 4 9)] (eO .tX (eC (eN "int" 730 12 15) [(eO .tP (eO .wU (eO .wU (eO .wU (eO .tX (eC (eN "int" 730 17 20) [(eN "big" 730 21 24)] 730 17 25) (eI 2147483629 730 28 38) 730 17 38) (eO .tP (eO .tP (eI 7919 730 41 45) (eN "k" 730 48 49) 730 41 49) (eN "k" 730 52 53) 730 41 53) 730 17 53) (eO .tP (eI 31 730 56 58) (eN "k" 730 61 62) 730 56 62) 730 17 62) (eI 17 730 65 67) 730 17 67) (eI 48271 730 71 76) 730 16 76)] 730 12 77) (eI 2147483647 730 80 90) 730 12 90) ⟨730,4,730,90⟩,
 .WK (E0 (.P0 [(eO .tP (eN "big" 731 12 15) (eC (eN "int" 731 18 21) [(eQ .Yg (eN "big" 731 22 25) (eO .Pow (eI 10 731 29 31) (eI 18 731 35 37) 731 29 37) 731 22 37)] 731 18 38) 731 12 38),(eN "mixed" 731 40 45)] ⟨731,11,731,46⟩)) ⟨731,4,731,46⟩]
theorem mR0(w:N4):bK (PA w 839)=t70:=by kernel_rfl
def GI:z5:=(en (pU 71)).y7
theorem nR0(w:N4):(PA w 839).w8.y7=GI:=by kernel_rfl
def pmP:Pm:=.N1 (vc "script") (.N1 (vc "k") .B0)
theorem oR0(w:N4):PZ w 839 pmP=I0:=by kernel_rfl
theorem n71:(A5 "script"&&n7 GI "script"&&A5 "k"&&n7 GI "k"&&A5 "cell"&&n7 GI "cell"&&z6 GI "cell"&&A5 "big"&&n7 GI "big"&&z6 GI "big"&&A5 "mixed"&&n7 GI "mixed"&&z6 GI "mixed"&&E7 GI "int"&&E7 GI "max"&&E7 GI "len")=I0:=by kernel_rfl
theorem pR0{t a b:C1}{p:T3}{c:I1}{z:B2}(ht:∀(s:D1)(E:K0->D1->Prop)(K:I1->D1->Prop),J1 B A G s->V5 B N0 D0 O0 G W0->(∀s1,A3 B N2 G s G s1->J1 B A G s1->K c s1)->V0 R2 A (WH t N0 (Q5 t N0)) K E s)
  (h1:c=I0->S9 B A N0 G O0 a z)(h2:c=R0->S9 B A N0 G O0 b z):S9 B A N0 G O0 (.aU t a b p) z:=λ s E gd er=>
 KV0 (ht s E _ gd er λ s1 C2 g1=>by
  cases c using o7 with
  |I0=>exact V3 (h1 O s1 E g1 (HI C2)) (λ v s2 zz=>Wn zz λ hv I2 g2=>⟨hv,FC I2,g2⟩) λ _ _ h=>h
  |R0=>exact V3 (h2 O s1 E g1 (HI C2)) (λ v s2 zz=>Wn zz λ hv I2 g2=>⟨hv,FC I2,g2⟩) λ _ _ h=>h)
theorem qR0(BF:S7 B gF)(ES:n9 N0 L)(TA:VF "int"=H0/\UJ "int"=E0 (.U0 "int"))(hg:E7 L "int"=I0){op:jE}{a b:C1}{p q r:T3}{i j:B2}{c:I1}(hm:lv op b=R0)(e1:S9 B A N0 G O0 a i)(e2:S9 B A N0 G O0 b j)
  (sX:∀(s:D1)(t u:P6)(Q E:K0->D1->Prop),Q (.O3 c) s->V0 R2 A (ZN op (.j0 i t) (.j0 j u)) Q E s):S9 B A N0 G O0 (.C7 (.u3 "int" p) [.aP a [op] [b] q] [] r) (if c then 1 else 0):=λ s E gd er=>by
 refine mM (jV BF ES gd TA hg (by decide) ?_);refine AJ (by rw[IL (by rfl)];rfl) (BJ (by rfl) ?_);refine zD (CU0 (V3 (e1 s _ gd er) (λ v s1 ⟨⟨t,ev⟩,C2,g1⟩=>?_) λ _ _ h=>h) hm);subst ev;refine V3 (e2 s1 _ g1 (HI C2)) (λ v s2 ⟨⟨u,ev⟩,I2,g2⟩=>?_) λ _ _ h=>h;subst ev;refine sX s2 t u _ _ (JJ ⟨GN,EP.call_int_bool ?_⟩);exact⟨⟨_,O⟩,(FC I2).U2 (d00 _).2,(d00 _).1⟩
theorem Gy(CT:aD B T)(ON:AF)(HE:z7 B gF cl n ih)(X:G5 B n A N0 L O0 G s){x:u0}{e:C1}{i:B2}{J4:P0 P5}{D2 tp:T3}(hx:(A5 x&&z6 L x)=I0)(h1:dM (.u3 x tp) e=I0)(h3:uK (.u3 x tp) e=I0)(hq:∀Y5 gs sc p,e≠.QB Y5 gs sc p)(ev:S9 B A N0 G O0 e i)
  {KO:OJ->D1->Prop}{OG:K0->D1->Prop}
  (hK:∀G2 s2,A3 B (D5 N0 L) G s G2 s2->XR=R1->G5 B n A N0 L (A6 (vc x) (.j0 i) O0) G2 s2->V0 R2 A (mC J4 N0) KO OG s2):V0 R2 A (mC (.PF [.u3 x tp] e D2::J4) N0) KO OG s:=
 Kl (FZ:=HB) (k:=0) CT ON HE X h1 (by rfl) h3 hq ev (Fy hx) λ G2 V8 s2 I2 g2 R6 zz=>EO zz λ h1 h2=>by
  subst h1;exact hK G2 s2 I2 h2 ⟨iD,WB,g2,R6⟩
theorem u70(t:QE w):∃b,∃fo:jQ (S5 t) gF cl 839 pmP b,xI=GI/\SX=t70:=by
 obtain⟨fo,h1,h2⟩:=jl (t:=t) (Zl (by kernel_rfl)) (oR0 w) (Eq.M5 (cS gF cl 40 (PA w 839).w8.y7 (bK (PA w 839))));exact⟨_,fo,(H6 (·.w8.y7) h1).U2 (nR0 w),h2.U2 (mR0 w)⟩
theorem rR0{t:QE w}{l:C0}{xs:P0 B2}(hs:RZ (S5 t) l xs)(FM:bC<2^62){k:C0}(hk:k<2)(D6:O8 20 A)(gd:J1 (S5 t) A G s){tk:P6}{P:PV->K1->Prop}{X:C0->K1->Prop}(hP:P (.J0 J3) (qL .S4)):
  V0 (S5 t).M A (X7 (.J0 839) [.J0 l,.j0 k tk]) (Po (S5 t) RV F A G s P) (Px (S5 t) F A G s X) s:=by
 obtain⟨b,fo,hn,hb⟩:=u70 t;refine Pj (GC t).BF fo (n:=19) D6 gd (L1:=.A0 (.Y0 l) (.A0 (.j0 k) .B0)) (O0:=.kv (vc "script") (.Y0 l) (.kv (vc "k") (.j0 k) .B0)) ⟨_,_,O,O,_,_,O,⟨_,O⟩,O⟩ O λ{A' N0 s0} yL ES g0 er vO=>?_;rw[hb,hn];symm;rw[hn]at ES;change V5 (S5 t) N0 D0 (.kv (vc "script") (.Y0 l) (.kv (vc "k") (.j0 k) .B0)) G gB0 at er;have hN:=n71;simp only[N5]at hN;obtain⟨⟨⟨⟨⟨⟨⟨⟨⟨⟨⟨⟨⟨⟨⟨o1,l1⟩,o2⟩,l2⟩,o3⟩,l3⟩,s3⟩,o4⟩,l4⟩,s4⟩,o5⟩,l5⟩,s5⟩,gi⟩,gm⟩,gl⟩:=hN;have Ng:=S70 (w:=w);have Hy:=T70 (w:=w);have d1:vc "script"≠vc "k":=by decide +F7
 have d2:vc "cell"≠vc "k":=by decide +F7
 have d3:vc "big"≠vc "k":=by decide +F7
 have d4:vc "cell"≠vc "big":=by decide +F7
 have d5:vc "big"≠vc "mixed":=by decide +F7
 have v1:I4 (vc "script") (.kv (vc "script") (.Y0 l) (.kv (vc "k") (.j0 k) .B0))=E0 (.Y0 l):=by rw[xH,y3 O]
 have v2:I4 (vc "k") (.kv (vc "script") (.Y0 l) (.kv (vc "k") (.j0 k) .B0))=E0 (.j0 k):=by rw[xH,w3 d1,xH,y3 O]
 have sR0:O8 5 A':=qf (by exact u6 O);have X0:G5 (S5 t) 5 A' N0 GI (.kv (vc "script") (.Y0 l) (.kv (vc "k") (.j0 k) .B0)) G s0:=⟨sR0,ES,g0,er⟩;ext;generalize(PV.kv (vc "script") (.Y0 l) (.kv (vc "k") (.j0 k) .B0))=iA at *;symm;have CT:=(GC t).CT;have ON:=(GC t).ON;have HE:z7 (S5 t) gF cl 5 K9:=(fk 5).B6;have EK:=MF;ext;obtain⟨c0,UM⟩:∃c0:B2,(JE ((k:B2)<bC)=I0->xs[k]?=E0 c0)/\(JE ((k:B2)<bC)=R0->c0=0):=by
  by_cases q:(k:B2)<bC
  ·exact⟨xs[k]'(by exact pc.mp ‹_›),λ _=>P0.YS0 _,λ z=>(by rw[RW q]at z;contradiction)⟩
  ·exact⟨0,λ z=>(by rw[Fk q]at z;contradiction),λ _=>O⟩
 refine Gy CT ON HE X0 (i:=c0) (by rw[o3,s3];rfl) O O (λ _ _ _ _ q=>by contradiction) (pR0 (c:=JE ((k:B2)<bC))
  (λ s E K gd er hK=>lR0 O (FJ EK o2 l2 v2) (q70 (GC t).BF EK hs FM o1 l1 gl v1) (λ s t u Q E h=>eM.lt_int h) gd er hK)
  (λ q=>kR0 EK hs o1 l1 v1 o2 l2 v2 (by exact KM ‹_› O) (UM.1 q)) (λ q=>by rw[UM.2 q];exact HF)) λ G1 s1 C2 mH X1=>?_
 have v3:I4 (vc "cell") (A6 (vc "cell") (.j0 c0) iA)=E0 (.j0 c0):=by rw[ZD,y3 O]
 refine Gy CT ON HE X1 (by rw[o4,s4];rfl) O O (λ _ _ _ _ q=>by contradiction) (s70 (GC t).BF a00 EK Hy gm O O (rT (GC t).BF EK Ng gi O (FJ EK o3 l3 v3))
  (rT (GC t).BF EK Ng gi O (tD (jR0 HF) (FJ EK o3 l3 v3) λ s t u Q E h=>eM.sub_int h))) λ G2 s2 I2 kH X2=>?_
 symm;generalize(if -1-c0>c0 then -1-c0 else c0)=RO at X2 I2;have v4:I4 (vc "big") (A6 (vc "big") (.j0 RO) (A6 (vc "cell") (.j0 c0) iA))=E0 (.j0 RO):=by rw[ZD,y3 O]
 ext;have v5:I4 (vc "k") (A6 (vc "big") (.j0 RO) (A6 (vc "cell") (.j0 c0) iA))=E0 (.j0 k):=by rw[ZD,w3 (H9 d3),ZD,w3 (H9 d2)];exact v2
 generalize A6 (vc "big") (.j0 RO) (A6 (vc "cell") (.j0 c0) iA)=V8 at *;have Wa:(0:B2)<=k/\(k:B2)<2^63:=⟨by exact PL _,by omega⟩;refine Gy CT ON HE X2 (by rw[o5,s5];rfl) O O (λ _ _ _ _ q=>by contradiction) (tD (rT (GC t).BF EK Ng gi O (tD (tD (tD (tD (tD (rT (GC t).BF EK Ng gi O (FJ EK o4 l4 v4)) HF λ s t u Q E h=>ma (by decide) h)
  (tD (tD HF (FJ EK o2 l2 v5) λ s t u Q E h=>WZ h (HW Wa.1 Wa.2)) (FJ EK o2 l2 v5) λ s t u Q E h=>WZ h (HW Wa.1 Wa.2)) λ s t u Q E h=>li h)
  (tD HF (FJ EK o2 l2 v5) λ s t u Q E h=>WZ h (HW Wa.1 Wa.2)) λ s t u Q E h=>li h) HF λ s t u Q E h=>li h) HF λ s t u Q E h=>WZ h (HW (by decide) (by decide))))
  HF λ s t u Q E h=>ma (by decide) h) λ G3 s3 U5 wQ X3=>?_
 symm;generalize B2.cy (_*_) _=uR at X3 U5;have d6:vc "mixed"≠vc "big":=H9 d5;ext;have v6:I4 (vc "big") (A6 (vc "mixed") (.j0 uR) V8)=E0 (.j0 RO):=by rw[ZD,w3 d5];exact v4
 symm;have v7:I4 (vc "mixed") (A6 (vc "mixed") (.j0 uR) V8)=E0 (.j0 uR):=by rw[ZD,y3 O]
 have e1:S9 (S5 t) A' N0 G3 (A6 (vc "mixed") (.j0 uR) V8) (eO .tP (eN "big" 731 12 15) (eC (eN "int" 731 18 21) [(eQ .Yg (eN "big" 731 22 25) (eO .Pow (eI 10 731 29 31) (eI 18 731 35 37) 731 29 37) 731 22 37)] 731 18 38) 731 12 38) (RO*(if JE (RO≥10^(18:B2).qR)then 1 else 0)):=
  tD (FJ EK o4 l4 v6) (qR0 (GC t).BF EK Ng gi (c:=JE (RO≥10^(18:B2).qR)) O (FJ EK o4 l4 v6) (tD HF HF λ s t u Q E h=>eM.pow_int_small (by decide) (by decide) (by decide) h) λ s t u Q E h=>PW0 h) λ s t u Q E h=>WZ h (HW (by split<;>decide) (by split<;>decide))
 have e2:S9 (S5 t) A' N0 G3 (A6 (vc "mixed") (.j0 uR) V8) (eN "mixed" 731 40 45) uR:=FJ EK o5 l5 v7;generalize(RO*(if JE (RO≥10^(18:B2).qR)then 1 else 0))=z1 at e1;ext;refine AB (Hb (m90 ?_));refine zD (V3 (e1 s3 _ X3.gd X3.er) ?_ λ _ _ h=>h);intro v s4 Z2;obtain⟨⟨t1,ev1⟩,wA,g4⟩:=Z2;subst ev1;refine zD (V3 (e2 s4 _ g4 (X3.HI wA)) ?_ λ _ _ h=>h);intro v s5 Z2;obtain⟨⟨t2,ev2⟩,NN,g5⟩:=Z2;subst ev2;refine JJ ⟨show 2<=aA by decide,?_⟩;symm;have BG:(s5.Wp (qB [.j0 z1 t1,.j0 uR t2] 0)).X5 s5.Ch=E0 (qB [.j0 z1 t1,.j0 uR t2] 0):=DA _ O;obtain⟨g6,Sw⟩:=g5.y6 (tk:=s5.B4) (o:=.S4) (ob:=qB [.j0 z1 t1,.j0 uR t2] 0) ⟨_,_,_,_,_,BG⟩;have Vk:A3 (S5 t) (D5 N0 GI) G s0 (G3.SB .S4 s5.Ch) _:=((FC I2).U2 U5).U2 (((wA.U2 NN).U2 Sw).E5 λ _ q=>Q6);have OM:Ia=R1:=wQ.U2 (kH.U2 mH);ext;refine⟨_,.U1 (.J0 Ia.n) .B0,Vk,g6,⟨TD _,H6 x6 (y3 O).Z3⟩,.S2 ⟨_,_,O,?_⟩⟩;show P (.J0 Ia.n) (G3.si .S4);rw[OM];exact hP
end
section
theorem draws{α:Type}{o:H7 α}{n:C0}(h:dn o=n+1){P:α->K1->Prop}{X:C0->K1->Prop}(hd:∀d,d<n+1->(dk o d).P1 P X):aH P X:=by
 cases o using H7.n8 with
 |YG m k=>cases h;exact hd
 |_=>cases h
theorem tR0(d:C0):d<11->S8 JB (dk LA d)=I0:=
 kk9 (P:=λ d=>d<11->S8 JB (dk LA d)=I0) (λ _=>rx0) (λ _=>rx1) (λ _=>rx2) (λ _=>rx3) (λ _=>rx4) (λ _=>rx5) (λ _=>rx6) (λ _=>rx7) (λ _=>rx8)
  (WM (P:=λ k=>k+9<11->S8 JB (dk LA (k+9))=I0) (λ _=>rx9) (WM (P:=λ k=>k+10<11->S8 JB (dk LA (k+10))=I0) (λ _=>YI0) λ k h=>U3 h (lb (LU0 11 k)))) d
structure v70(o:H7 PV):Prop where
 dA:aH (λ p σ=>JB p σ=I0) λ _ _=>J6
theorem lW0{o:H7 PV}(h:dn o=11)(hr:∀d,d<11->S8 JB (dk o d)=I0):v70 o:=⟨draws (n:=10) h λ d hd=>j60 (hr d hd)⟩
theorem uR0:v70 ((nD HB TB 300).B6 (cE gF TV0 40 P9 bV) cV nG):=
 lW0 (o:=(nD HB TB 300).B6 (cE gF TV0 40 P9 bV) cV nG) (by have h:=r11;unfold LA Ls at h;exact h) (by have h:=tR0;unfold LA Ls at h;exact h)
end
section
variable{B:Bs}{A:Around}{G G0 G1 G2:Gh}{s s':Shared}{F:Addr->Prop}{n:Nat}{ih:C5}{T:Tab}{cenv:Env}{L:Kinds}{env:PV}{w:World}
theorem vR0(CT:aD B T)(ON:AF)(HE:z7 B gF cl n ih)(X:G5 B n A N0 L O0 G s){x:u0}{e:C1}{J4:P0 P5}{D2 tp:T3}(hx:(A5 x&&z6 L x)=I0)(h1:dM (.u3 x tp) e=I0)(h3:uK (.u3 x tp) e=I0)(hq:∀Y5 gs sc p,e≠.QB Y5 gs sc p)
  {P:PV->K1->Prop}{KO:OJ->D1->Prop}{OG:K0->D1->Prop}(ev:V0 R2 A (Q5 e N0) (Po B RV N2 A G s P) OG s)
  (hK:∀G2 s2 p,A3 B (D5 N0 L) G s G2 s2->P p XR->G5 B n A N0 L (A6 (vc x) p O0) G2 s2->V0 R2 A (mC J4 N0) KO OG s2):V0 R2 A (mC (.PF [.u3 x tp] e D2::J4) N0) KO OG s:=by
 refine AB ?_;refine S0 (BB ?_);rcases yv (N0:=N0) (YH:=i_) h1 with q|⟨q,⟨Y5,gs,sc,p2,O⟩,_⟩
 ·rw[q];refine S0 (E2 ?_);refine SI PG ?_;refine S0 (V3 ev ?_ λ _ _ h=>h);intro v s1 Z2;obtain⟨G1,p,C2,g1,rv,hp⟩:=Z2;refine V3 (Pk (FZ:=HB) (k:=0) CT ON HE (KC C2 g1) h3 (by rfl) (p:=p) rv (Fy hx)) ?_ λ _ _ Z2=>by obtain⟨_,_,_,_,_,h⟩:=Z2;exact u4
  intro f s2 Z2;obtain⟨hf,G2,V8,I2,g2,R6,he,hs⟩:=Z2;subst hf;subst he;exact hK G2 s2 p ((iC λ _ q=>Q6).U2 I2) (by rw[hs];exact hp) ⟨iD,WB,g2,R6⟩
 ·exact U3 O (hq _ _ _ _)
theorem wR0(er:V5 B N0 D0 O0 G W0){i:C0}(hv:I4 (vc "source") O0=E0 (.J0 i))(hi:i<J3)(E8:P3 i=.S4):V5 B N0 D0 cV ⟨nG,λ _=>Y2 i,J5,F5⟩ W0:=by
 have U7:∀x v,I4 (vc x) cV=E0 v->I4 (vc x) O0=E0 (.J0 i)/\v=.J0 0:=λ x v h=>by
  unfold cV at h;rw[xH]at h
  split at h
  ·rename_i q;obtain O:=I3 h;rw[<-q];exact⟨hv,O⟩
  ·contradiction
 have MO:∀{u:K0},H3 G W0 (.J0 i) u->H3 ⟨nG,λ _=>Y2 i,J5,F5⟩ W0 (.J0 0) u:=λ Z2=>by obtain⟨_,e⟩:=Z2;exact⟨C0.one_pos,e⟩
 have v9:∀b,w9 ⟨nG,λ _=>Y2 i,J5,F5⟩ b->w9 G b:=λ b Z2=>by obtain⟨j,hj,hn,e⟩:=Z2;exact⟨i,hi,by rw[E8];simp,e⟩
 obtain⟨m,hm,hr⟩:=lU;refine⟨⟨m,hm,λ x v h1 h2 h3 h4=>?_⟩,λ x v h1 h2 h3=>?_,UX,Vo,Ny,⟨λ q=>kP.1 (v9 _ q),kP.2⟩,λ x c h=>⟨λ q=>(EX x c h).1 (v9 _ q),(EX x c h).2⟩,Tg⟩
 ·obtain⟨k1,O⟩:=U7 x v h4;obtain⟨u,hu,ru⟩:=hr x _ h1 h2 h3 k1;exact⟨u,hu,MO ru⟩
 ·obtain⟨k1,O⟩:=U7 x v h3;obtain⟨c,u,hc,hu,ru⟩:=O00 x _ h1 h2 k1;exact⟨c,u,hc,hu,MO ru⟩
theorem xR0(t:QE w)(D6:O8 410 A)(ES:wG A N0 P9)(gd:J1 (S5 t) A G s)(er:V5 (S5 t) N0 D0 O0 G W0){i:C0}(hv:I4 (vc "source") O0=E0 (.J0 i))(hi:i<J3)(E8:P3 i=.S4){Q E:K0->D1->Prop}
  (hQ:∀s1,A3 (S5 t) N2 G s G s1->J1 (S5 t) A G s1->Q (.O3 I0) s1):V0 (S5 t).M A (Q5 bV N0) Q E s:=by
 have X:=G70 hi E8;have LV:=o70 t 300;have KS:=y8 (k:=40) (L:=P9) (e:=bV) ⟨D6,ES,uA0 gd,wR0 er hv hi E8⟩;have ta:=uR0;generalize(nD HB TB 300).B6 (cE gF cl 40 P9 bV) cV=o at KS ta;refine V3 (KS _ _ ta.dA) ?_ λ _ _ Z2=>by obtain⟨_,_,_,_,_,h⟩:=Z2;exact u4
 intro v s1 Z2;obtain⟨G1,p,st,g1,rp,hp⟩:=Z2;have hp:JB p qF=I0:=hp;unfold JB at hp;rw[N5]at hp;obtain⟨g2,I2⟩:=X.sU gd st g1 (i60 hp.2);obtain O:=l20 hp.1;have rp:v=.O3 I0:=rp;subst rp;exact hQ s1 I2 g2
def w70:I1:=A5 "script"&&n7 P9 "script"&&A5 "k"&&n7 P9 "k"&&z6 P9 "k"&&A5 "source"&&n7 P9 "source"&&z6 P9 "source"&&A5 "turn"&&z6 P9 "turn"&&E7 P9 "range"&&E7 P9 "max"&&E7 P9 "min"&&E7 P9 "len"&&E7 P9 "_law_pool"
theorem n90:w70=I0:=by kernel_rfl
def x70:P0 P5:=[.If (.fD .dX bV ⟨881,15,881,73⟩) [.WK (E0 (eB R0 882 23 28)) ⟨882,16,882,28⟩] [] ⟨881,12,882,28⟩]
def y70:C1:=eC (eN "_law_pool" 879 17 26) [(eN "script" 879 27 33),(eN "k" 879 35 36)] 879 17 37
def yR0:C1:=eC (eN "max" 878 19 22) [(eI 1 878 23 24),(eC (eN "min" 878 26 29) [(eC (eN "len" 878 30 33) [(eN "script" 878 34 40)] 878 30 41),(eI 2 878 43 44)] 878 26 45)] 878 19 46
def zR0:P0 P5:=[.PF [(eN "source" 879 8 14)] y70 ⟨879,8,879,37⟩,.eX (eN "turn" 880 12 16) (eC (eN "range" 880 20 25) [(eI 4 880 26 27)] 880 20 28) x70 [] ⟨880,8,882,28⟩]
def z70:P0 P5:=.eX (eN "k" 878 8 9) (eC (eN "range" 878 13 18) [yR0] 878 13 47) zR0 [] ⟨878,4,882,28⟩::Ms
def pmL:Pm:=.N1 (vc "script") .B0
theorem AS0(w:N4):bK (PA w 943)=z70:=by kernel_rfl
theorem BS0(w:N4):(PA w 943).w8.y7=P9:=by kernel_rfl
theorem CS0(w:N4):PZ w 943 pmL=I0:=by kernel_rfl
theorem DS0(t:QE w):∃b,∃fo:jQ (S5 t) gF cl 943 pmL b,xI=P9/\SX=z70:=by
 obtain⟨fo,h1,h2⟩:=jl (t:=t) (Zl (by kernel_rfl)) (CS0 w) (Eq.M5 (cS gF cl 40 (PA w 943).w8.y7 (bK (PA w 943))));exact⟨_,fo,(H6 (·.w8.y7) h1).U2 (BS0 w),h2.U2 (AS0 w)⟩
theorem ES0(w:N4):JW (mN w 3 "_law_pool") 839=I0:=by kernel_rfl
theorem A3.x7{G3:Gh}{s1 s2:D1}(hn:J3=0)(hm:UB=0)(C2:A3 B F G s G1 s1)(I2:A3 B F G0 s1 G3 s2)(h0:∀b,¬w9 G0 b)(av:gz=mD):A3 B F G s G3 s2 where
 st:=by obtain⟨h2,t2,e2⟩:=C2.st;exact by obtain⟨h3,t3,e3⟩:=I2.st;exact⟨h3,t3,by rw[e3,e2]⟩
 le:=⟨by rw[hn];exact VN _,λ i hi=>(by rw[hn]at hi;exact U3 hi (RG _)),I2.QU.U2 (av.U2 C2.QU),by rw[hm];exact VN _,λ i hi=>(by rw[hm]at hi;exact U3 hi (RG _))⟩
 v9 b hb:=by
  rcases I2.v9 b hb with q|q
  ·exact U3 q (h0 b)
  ·right
   cases e:F3 b with
   |H0=>rfl
   |E0 o=>
    obtain⟨o',e'⟩:=s00 b o e;rw[q]at e';contradiction
 GE b o e:=by obtain⟨o',e'⟩:=s00 b o e;exact I2.GE b o' e'
 MC b o e h1 h2 h3:=by obtain⟨o',e',q⟩:=C2.MC b o e h1 h2 h3;exact by obtain⟨Lc,ag,q'⟩:=I2.MC b o' e' (h0 b) h2 h3;exact⟨Lc,ag,q.U2 q'⟩
 Q0 b vs n hb e:=I2.Q0 b vs n (by rw[av,C2.QU];exact hb) (h_ b vs n hb e)
 k3:=C2.k3.U2 I2.k3
end
section
variable{B:Bs}{A:Around}{G G0 G1 G2:Gh}{s s':Shared}{F:Addr->Prop}{cenv:Env}{env:PV}{w:World}
theorem Jy:(A5 "script"=I0/\n7 P9 "script"=I0)/\(A5 "k"=I0/\n7 P9 "k"=I0/\z6 P9 "k"=I0)/\(A5 "source"=I0/\n7 P9 "source"=I0/\z6 P9 "source"=I0)/\(A5 "turn"=I0/\z6 P9 "turn"=I0)/\E7 P9 "range"=I0/\E7 P9 "max"=I0/\E7 P9 "min"=I0/\E7 P9 "len"=I0/\E7 P9 "_law_pool"=I0:=by
 have h:=n90;unfold w70 at h;simp only[N5]at h;obtain⟨⟨⟨⟨⟨⟨⟨⟨⟨⟨⟨⟨⟨⟨h1,h2⟩,h3⟩,h4⟩,h5⟩,h6⟩,h7⟩,h8⟩,h9⟩,AW⟩,qX⟩,OS⟩,jd⟩,Cy⟩,h15⟩:=h;exact⟨⟨h1,h2⟩,⟨h3,h4,h5⟩,⟨h6,h7,h8⟩,⟨h9,AW⟩,qX,OS,jd,Cy,h15⟩
theorem vn:vc "script"≠vc "k"/\vc "script"≠vc "source"/\vc "script"≠vc "turn"/\vc "source"≠vc "turn":=by decide +F7
theorem FS0(er:V5 B N0 D0 O0 G W0):V5 B N0 D0 .B0 ⟨aS,λ _=>0,J5,F5⟩ W0:=by
 have v9:∀b,¬w9 ⟨aS,λ _=>0,J5,F5⟩ b:=λ b zz=>o_ zz λ j hj _=>U3 hj (RG _);obtain⟨m,hm,hr⟩:=lU;exact⟨⟨m,hm,λ x v _ _ _ h=>by contradiction⟩,λ x v _ _ h=>(by contradiction),UX,Vo,Ny,⟨v9 _,kP.2⟩,λ x c h=>⟨v9 _,(EX x c h).2⟩,Tg⟩
theorem GS0(t:QE w)(X:G5 (S5 t) 5 A N0 P9 O0 G s)(D6:O8 20 A){l:C0}{xs:P0 B2}(hs:RZ (S5 t) l xs)(FM:bC<2^62){k:C0}(hk:k<2)(v1:I4 (vc "script") O0=E0 (.Y0 l))(v2:I4 (vc "k") O0=E0 (.j0 k)){OG:K0->D1->Prop}:
  V0 (S5 t).M A (Q5 y70 N0) (Po (S5 t) RV N2 A G s λ p σ=>p=.J0 J3/\σ=qL .S4) OG s:=by
 obtain⟨⟨o1,l1⟩,⟨o2,l2,_⟩,_,_,_,_,_,_,gp⟩:=Jy;refine mM (f30 (GC t).BF MI ZB (Qe (ES0 w)) gp (by decide) ?_);refine AJ (by rw[IL (by rfl)];rfl) (BJ (by rfl) ?_);obtain⟨b,fo,_,_⟩:=u70 t;have ho:=X.IC 839 fo.o Uo Oo (by rw[Uf];decide) (by rw[Uf];decide);refine zD (uI MI VR o1 l1 v1 λ u ru=>zD (uI MI VR o2 l2 v2 λ u2 ⟨t2,e2⟩=>JJ ⟨qw ho D10,?_⟩));have ru:u=.J0 l:=ru;subst ru e2;exact V3 (rR0 hs FM hk D6 ZB (X:=λ _ _=>J6) ⟨O,O⟩) (λ _ _ h=>h) λ _ _ Z2=>by obtain⟨_,_,_,_,_,h⟩:=Z2;exact u4
structure HS0(o:H7 Fl):Prop where
 dA:aH (λ f _=>∃e,f=.U1 (.O3 I0) e) λ _ _=>J6
theorem IS0{o:H7 Fl}(h:Qs o=I0):HS0 o:=⟨JI0 h⟩
theorem JS0(t:QE w)(X:G5 (S5 t) 5 A N0 P9 O0 G s)(D6:O8 410 A){i:C0}{v:PV}(v1:I4 (vc "script") O0=E0 v)(v2:I4 (vc "source") O0=E0 (.J0 i))(hi:i<J3)(E8:P3 i=.S4){OG:K0->D1->Prop}:
  V0 (S5 t).M A (mC [.eX (eN "turn" 880 12 16) (eC (eN "range" 880 20 25) [(eI 4 880 26 27)] 880 20 28) x70 [] ⟨880,8,882,28⟩] N0) (λ f s2=>f=.W4/\∃G2 V8,A3 (S5 t) (D5 N0 P9) G s G2 s2/\J1 (S5 t) A G2 s2/\V5 (S5 t) N0 D0 V8 G2 TN/\I4 (vc "script") V8=E0 v) OG s:=by
 symm;obtain⟨_,_,_,⟨o4,s4⟩,gr,_,_,_,_⟩:=Jy;obtain⟨_,_,d3,d4⟩:=vn;have HE:z7 (S5 t) gF cl 5 K9:=(fk 5).B6;ext;refine p70 (GC t).BF (GC t).CT (GC t).ON HE (m:=4) (by decide) (by rw[o4,s4];rfl) gr O X HF
  (J:=λ _ σ e=>I4 (vc "script") e=E0 v/\I4 (vc "source") e=E0 (.J0 i)/\i<tJ/\CA i=.S4) ⟨v1,v2,hi,E8⟩ (λ j G1 s1 BI hj zz X1=>e0n4 zz λ j1 j2 j3 j4=>?_) λ G2 s2 V8 I2 g2 R6 Z2=>by obtain⟨j1,_⟩:=Z2;exact KP ⟨O,G2,V8,I2,g2,R6,j1⟩
 have q1:I4 (vc "script") (A6 (vc "turn") (.j0 (.O4 j)) BI)=E0 v:=by rw[ZD,w3 d3];exact j1
 have q2:I4 (vc "source") (A6 (vc "turn") (.j0 (.O4 j)) BI)=E0 (.J0 i):=by rw[ZD,w3 d4];exact j2
 refine AB (LA0 (wpAny_isTrue_Not ?_));refine wpAny_isTrue_value (xR0 t D6 WB X1.gd X1.er q2 j3 j4 λ s2 I2 g2=>bj ?_);exact KP (KP ⟨O,G1,_,sL λ _ q=>Q6,g2,X1.HI I2,q1,q2,j3,j4⟩)
set_option maxHeartbeats 1000000 in
theorem KS0(t:QE w)(D6:O8 420 A)(gd:J1 (S5 t) A G s)(hn:J3=0)(hm:UB=0){l:C0}{xs:P0 B2}(hs:RZ (S5 t) l xs)(FM:bC<2^62):
  V0 (S5 t).M A (X7 (.J0 943) [.J0 l]) (λ v s'=>v=.O3 I0/\∃G',A3 (S5 t) F G s G' s'/\J1 (S5 t) A G' s') (λ _ _=>J6) s:=by
 obtain⟨b,fo,A80,hb⟩:=DS0 t;refine V3 (Pj (GC t).BF fo (n:=419) (F:=F) D6 gd (L1:=.A0 (.Y0 l) .B0) (O0:=.kv (vc "script") (.Y0 l) .B0) (P:=λ p _=>p=.O3 I0) (X:=λ _ _=>J6) ⟨_,_,O,O,O⟩ O λ{A' N0 s0} yL ES g0 er vO=>?_)
  (λ v s' Z2=>by obtain⟨G',p,st,g',rp,hp⟩:=Z2;exact⟨(by subst hp;exact rp),G',st,g'⟩) λ _ _ Z2=>by obtain⟨_,_,_,_,_,h⟩:=Z2;exact h
 rw[hb,A80];symm;rw[A80]at ES;change V5 (S5 t) N0 D0 (.kv (vc "script") (.Y0 l) .B0) G gB0 at er;obtain⟨⟨o1,l1⟩,⟨o2,l2,s2⟩,⟨o3,l3,s3⟩,⟨o4,s4⟩,gr,gmx,gmn,gl,gp⟩:=Jy;obtain⟨d1,d2,d3,d4⟩:=vn;have v1:I4 (vc "script") (.kv (vc "script") (.Y0 l) .B0)=E0 (.Y0 l):=by rw[xH,y3 O]
 have X0:G5 (S5 t) 5 A' N0 P9 (.kv (vc "script") (.Y0 l) .B0) G s0:=⟨qf (by exact u6 O),ES,g0,er⟩;ext;generalize(PV.kv (vc "script") (.Y0 l) .B0)=iA at *;symm;have HE:z7 (S5 t) gF cl 5 K9:=(fk 5).B6;have EK:=MF;have Hy:=T70 (w:=w);have hmin:=yQ0 (w:=w);have ev:=s70 (GC t).BF a00 EK Hy gmx (p1:=⟨878,19,878,22⟩) (p2:=⟨878,19,878,46⟩) O O (HF (G:=G) (B:=S5 t) (A:=A') (N0:=N0) (O0:=iA) (i:=1) (j:=0) (p:=⟨878,23,878,24⟩))
  (iR0 (GC t).BF a00 EK hmin gmn (p1:=⟨878,26,878,29⟩) (p2:=⟨878,26,878,45⟩) O O (q70 (GC t).BF EK hs FM (p1:=⟨878,30,878,33⟩) (p2:=⟨878,34,878,40⟩) (p3:=⟨878,30,878,41⟩) o1 l1 gl v1) (HF (i:=2) (j:=0) (p:=⟨878,43,878,44⟩)))
 obtain⟨m,yo,em⟩:∃m:C0,m<=2/\(if(if(2:B2)<(bC:B2)then(2:B2)else(bC:B2))>1 then(if(2:B2)<(bC:B2)then(2:B2)else(bC:B2))else 1)=(m:B2):=by
  by_cases q:(2:B2)<(bC:B2)
  ·rw[y3 q,y3 (by decide)];exact⟨2,by decide,O⟩
  ·rw[w3 q];by_cases q2:(bC:B2)>1
   ·rw[y3 q2];exact⟨bC,by exact ω62 ‹_›,O⟩
   ·rw[w3 q2];exact⟨1,by decide,O⟩
 rw[em]at ev;ext;refine p70 (GC t).BF (GC t).CT (GC t).ON HE (m:=m) (by exact KM ‹_› O) (by rw[o2,s2];rfl) gr O X0 ev
  (J:=λ _ _ e=>I4 (vc "script") e=E0 (.Y0 l)) v1 (λ j G1 s1 BI hj j1 X1=>?_) λ G2 s2 V8 I2 g2 R6 _=>?_
 ·have q1:I4 (vc "script") (A6 (vc "k") (.j0 (.O4 j)) BI)=E0 (.Y0 l):=by rw[ZD,w3 d1];exact j1
  have q2:I4 (vc "k") (A6 (vc "k") (.j0 (.O4 j)) BI)=E0 (.j0 j):=by rw[ZD,y3 O];rfl
  refine vR0 (GC t).CT (GC t).ON HE X1 (by rw[o3,s3];rfl) O O (λ _ _ _ _ q=>by contradiction) (GS0 t X1 (qf (by exact u6 O)) hs FM (by exact X6 ‹_› ‹_›) q1 q2) ?_;intro G2 s2 p I2 Z2 X2;obtain⟨hp,OM⟩:=Z2;subst hp;have q3:I4 (vc "script") (A6 (vc "source") (.J0 TH) (A6 (vc "k") (.j0 (.O4 j)) BI))=E0 (.Y0 l):=by rw[ZD,w3 d2];exact q1
  refine V3 (JS0 t X2 (qf (by exact u6 O)) q3 (by rw[ZD,y3 O]) (by rw[OM];exact TD _) (by rw[OM,S_,y3 O])) (λ f s3 Z2=>by obtain⟨hf,G3,tO,U5,g3,sD,j3⟩:=Z2;exact⟨hf,G3,tO,UP U5,g3,sD,j3⟩) λ _ _ h=>h
 ·symm;have X:=Hl (G:=G2) (ι:=λ _=>0) (λ _=>0) G2.τ 0;have gn:=uA0 g2;have LV:=o70 t 300;have KS:=ZP (k:=40) (st:=Ms) (qf (by exact u6 O)) ES gn (FS0 R6);rw[cT_]at KS;have ta:=IS0 KI0;generalize(nD HB TB 300).AE fT .B0=o at KS ta;ext;refine V3 (KS _ _ ta.dA) ?_ λ _ _ Z2=>by obtain⟨_,_,_,_,_,h⟩:=Z2;exact u4
  intro f s3 Z2;obtain⟨G3,fl,U5,g3,rf,⟨e,hf⟩⟩:=Z2;subst hf;exact⟨G3,_,A3.x7 hn hm I2 U5 (λ b Z2=>by obtain⟨j,hj,_⟩:=Z2;exact U3 hj (RG _)) O,g3,rf,.S2 ⟨_,_,O,O⟩⟩
end
section
set_option backward.match.sparseCases true in
theorem Py{h:O1}{a:H1}:C3 a=match h.objs[a]? with|E0 ⟨_,_,.lz,_⟩=>H0|o=>o:=O
theorem trunc:∀(n:C0)(h:O1),o8=n->(∃b o,C3 b=E0 o)->∃h':O1,(∀b,D3 b=C3 b)/\∃o,D3 (NB-1)=E0 o:=by
 intro zq;induction zq with
 |K9=>
  rintro h hn ⟨b,o,e⟩;exact U3 (r9 e) (by rw[hn];exact RG _)
 |J9 n ih=>
  intro h hn hx;cases e:C3 n with
  |E0 o=>exact⟨h,λ _=>O,o,by rw[hn];exact e⟩
  |H0=>
   have U7:∀b,(⟨G10,h.life⟩:O1).X5 b=C3 b:=λ b=>by
    by_cases q:b=n
    ·subst q;rw[e,Py];have:(G10)[b]?=H0:=by rw[DV0];split<;>first|omega|rfl
     rw[J2]
    ·have:(G10)[b]?=h.objs[b]?:=by
      rw[DV0]
      split
      ·rfl
      ·rename_i z;rw[hn]at z;exact(n80 (by rw[hn];exact WT0 (JU0 z) (H9 q))).Z3
     rw[Py,Py];rw[J2]
   obtain⟨h',k,l⟩:=ih ⟨G10,h.life⟩ (by simp[hn]) (by obtain⟨b,o,e⟩:=hx;exact⟨b,o,(U7 b).U2 e⟩);exact⟨h',λ b=>(k b).U2 (U7 b),l⟩
def isI(d:jR):I1:=match d with
 |.j0 _=>I0
 |_=>R0
theorem LS0{R:QA0}{d:jR}(h:WShape.rU R d .j0=I0):isI d=I0:=by cases d using jR.n8<;>first|rfl|exact h
theorem MS0{R:QA0}{cl:u0->Q1 H1}{h:O1}{v:K0}{d:jR}{as:P0 H1}(hr:ReadsW R cl h v d as)(hd:isI d=I0):∃i t,v=.j0 i t:=by
 cases d using jR.n8 with
 |j0 i=>exact⟨i,(readsW_int_inv hr).QM λ _ h=>h.1⟩
 |_=>exact U3 hd PG
theorem NS0{R:QA0}{cl:u0->Q1 H1}{h:O1}:∀{ds:P0 jR}{vs:P0 K0}{as:P0 H1},ReadsAllW R cl h vs ds as->Tk R ds .j0=I0->
  ∃xs:P0 B2,R7=bC/\mL=bC/\∀(i:C0)(x:B2),xs[i]?=E0 x->∃t,(vs[i]?:Q1 K0)=E0 (K0.j0 x t):=by
 intro zq;induction zq with
 |B0=>
  intro vs as hr _;cases hr;exact⟨[],O,O,λ i x e=>by simp at e⟩
 |A0 d ds ih=>
  intro vs as hr hi;cases hr with
  |A0 r1 r2=>
   unfold Tk at hi;rw[N5]at hi;obtain⟨i,t,O⟩:=MS0 r1 (LS0 hi.1);obtain⟨xs,l1,l2,e⟩:=ih r2 hi.2;refine⟨i::xs,by simp[l1],by simp[l2],λ j x ej=>?_⟩;induction j using TL with
   |K9=>simp at ej;subst ej;exact⟨t,O⟩
   |J9 j=>simp at ej;obtain⟨t',q⟩:=e j x ej;exact⟨t',by simpa using q⟩
noncomputable abbrev rwR:RowW:=L80.row.toRowW
set_option backward.match.sparseCases true in
theorem pre_of{L1:P0 jR}(h:mW0.QO L1=I0):∃ds,L1=[.M1 ds]/\Tk Ee ds .j0=I0/\mL<=63:=by
 have h:(iU0 Ee L1 [.M1 .j0]&&WTm.holds Ee (.D8 (.hH (.lt (.v0 (.j0 63)) (.Z5 (.WG 0)))) (.v0 (.O3 I0))) {L1:=L1})=I0:=h;rw[N5]at h;obtain⟨h1,h2⟩:=h;cases L1 using i5 with
 |B0=>contradiction
 |A0 d r=>
  have h1:(WShape.rU Ee d (.M1 .j0)&&iU0 Ee r [])=I0:=h1;rw[N5]at h1;cases r using i5 with
  |A0 d2 r2=>cases h1.2
  |B0=>
   obtain⟨h1,_⟩:=h1;have hd:∃ds,d=.M1 ds/\Tk Ee ds .j0=I0:=by
    cases d using jR.n8 with
    |M1 ds=>exact⟨ds,O,by rw[<-I1.eE (Tk _ _ _)];exact h1⟩
    |_=>exact U3 (show R0=I0 from h1) PG
   obtain⟨ds,O,hi⟩:=hd;refine⟨ds,O,hi,?_⟩;have h2:(match(match(match(match(less? (.j0 63) (.j0 mL)).Y4 Rm with|E0 (.O3 b)=>E0 (Rm (!b))|_=>H0)with
    |E0 (.O3 R0)=>E0 (Rm R0)
    |E0 (.O3 I0)=>E0 (Rm I0)
    |_=>H0)with
    |E0 (.O3 I0)=>I0
    |_=>R0)with|b=>b)=I0:=h2
   have:less? (.j0 63) (.j0 mL)=E0 (JE ((63:B2)<mL)):=O;rw[J2]at h2;by_cases q:(63:B2)<mL
   ·rw[RW q]at h2;contradiction
   ·exact ω62 ‹_›
set_option backward.match.sparseCases true in
theorem OS0(L1:P0 jR):mW0.Co L1 (.O3 I0) L1=I0:=by
 show(I0&&(match(E0 (Rm (Kg (.O3 I0) (.O3 I0))):Q1 jR)with|E0 (.O3 I0)=>I0|_=>R0))=I0;rw[same_self];rfl
end
section
variable{w:World}
theorem PS0(w:N4):JW (mN w 3 "law") 943=I0:=by kernel_rfl
def G00:Gh:=⟨aS,λ _=>0,λ _=> .u8,[]⟩
theorem QS0{h:O1}(y:H.YP w h):∃t:QE w,∀b,Vg b=C3 b:=by
 obtain⟨_,tb,_⟩:=Ke (w:=w) (c:=35) (z:=31) (aE ..);obtain⟨h',k,l⟩:=trunc _ h O ⟨_,_,y _ _ tb.2⟩;exact⟨⟨h',λ b o e=>(k b).U2 (y b o e),l⟩,k⟩
theorem good0(t:QE w){s:D1}(y:H.YP w W0)(k:∀b,Vg b=F3 b):J1 (S5 t) iA0 G00 s where
 ty:=⟨λ i hi=>U3 hi (RG _),λ i hi=>U3 hi (RG _),λ p hp=>by contradiction⟩
 inv:=⟨λ i j hi=>U3 hi (RG _),λ i hi=>U3 hi (RG _),λ i _=>O,λ i hi=>U3 hi (RG _),λ a ha=>by contradiction⟩
 mA b o e _ _ _:=(k b).Z3.U2 e
 NG:=⟨gx y,λ b o e _=>(k b).Z3.U2 e⟩
 fr:=⟨[],O,λ e he=>by contradiction⟩
theorem RS0{h:O1}{a:H1}{m m':u0->Q1 K0}(x:eH a m)(y:eH a m'):m=m':=by
 obtain⟨o,es,ep,e,d,_,f⟩:=x;obtain⟨o',Na,Pc,e',d',_,f'⟩:=y;rw[e]at e';obtain O:=I3 e';rw[d]at d';cases d';exact im λ n=>(f n).Z3.U2 (f' n)
theorem SS0:O8 420 iA0:=⟨O,by decide,by decide⟩
theorem TS0(t:QE w){s s':D1}(y:H.YP w W0)(k:∀b,Vg b=F3 b){G':Gh}(g:J1 (S5 t) iA0 G' s'):OldK W0 U6:=by
 have U7:∀b o,F3 b=E0 o->VL b=E0 o\/(UV0 W0 b/\o={O2:=.H0,M3:=.T5 #[]}/\∃ps,VL b=E0 {O2:=.H0,M3:=.T5 ps}):=λ b o e=>by
  have e2:(S5 t).hf.X5 b=E0 o:=(k b).U2 e;by_cases hz:b∈vR (·.2)
  ·obtain⟨⟨c,z⟩,hp,O⟩:=ca.mp hz;have tb:=(Ke (w:=w) hp).2.1.zW y;have e3:=tb.2;rw[e]at e3;exact .L2 ⟨tb.UV0,I3 e3,lE.1.at hz⟩
  ·by_cases h1:H4=.U0 "frame"
   ·exact .S2 (lE.2 b o e2 (.S2 h1))
   ·by_cases h2:H4=.U0 "traceback"
    ·exact .S2 (lE.2 b o e2 (.L2 h2))
    ·exact .S2 (VB b o e2 hz h1 h2)
 refine⟨λ b o e=>?_,λ b o e=>?_⟩
 ·rcases U7 b o e with q|⟨q1,O,ps,q3⟩
  ·exact .S2 q
  ·exact .L2 (.S2 ⟨q1,O,#[],ps,O,by rw[M4.empty_append];exact q3⟩)
 ·rcases U7 b o e with q|⟨_,_,ps,q3⟩
  ·exact⟨_,q⟩
  ·exact⟨_,q3⟩
set_option tactic.hygienic true in
theorem walk:WalkO H.q H.mR (λ _ _=>rP) H.YP H.ib H.vX [] λ f vs=>X7 f vs:=by
 intro w s₀ N6 mg mb Gr Y a o pm cd AQ dV kV ho hd hc hD hm hg L1 L5 as hpre hlay hrd FX0 Z6;obtain⟨t,k⟩:=QS0 Y;have g0:=good0 t Y k;have e1:mg=mN w 3:=RS0 Gr.T.g ((Vl t).hmg o00 g0.mA);have ea:a=943:=by
  have hm:mg "law"=E0 (.J0 a):=hm;rw[e1,Qe (PS0 w)]at hm;cases hm;rfl
 subst ea;obtain⟨ds,O,hi,hl⟩:=pre_of hpre;cases hrd with
 |A0 r1 r2=>
  cases r2;cases r1 with
  |M1 q1 q2 q3 q4=>
   rename_i l ol vs n as';obtain⟨xs,l1,l2,ht⟩:=NS0 q4 hi;have hnz:l∉(S5 t).Z:=λ q=>by
    obtain⟨ps,e⟩:=(gx Y).at q;rw[q1]at e;obtain O:=I3 e;contradiction
   have hs:RZ (S5 t) l xs:=⟨vs.bE,⟨ol,(k l).U2 q1,q2,n,q3⟩,l1,ht,hnz⟩;refine V3 (KS0 (F:=N2) t SS0 g0 O O hs (by exact ω71 ‹_› ‹_› O)) (λ v s' zz=>EO zz λ hv zz=>o_ zz λ G' st g'=>?_) λ _ _ h=>u4;subst hv;obtain⟨h',tk,es⟩:=Pf;refine⟨.S2 ⟨.O3 I0,.O3 I0,[],O,λ _=>O,.O3 I0,OS0 _,λ _=>⟨ub,λ a ha=>by contradiction⟩⟩,TS0 t Y k g',by rw[es],.of_eq (by rw[es];exact hg)⟩
theorem holds:H.mV0:=H.J8 walk
end
end Mine.Internal
end
theorem PySem.Challenge.cw_ot0048_01_holds : PySem.Challenge.rw_ot0048_01.Holds :=
  Mine.Internal.holds
