import PyProof.Rows.All
import Wide.All
import OpenK.AllK
import Wide.FinOn
import KE.KDictLaws
import KE.KDictOf
import KE.KDictList
import KE.KLam
import KE.KDictSum
import Lean
import PySem.Challenge.RW_ot0048_01
set_option linter.unusedVariables false
set_option Elab.async false
set_option genInjectivity false
set_option genSizeOf false
set_option bootstrap.genMatcherCode false
set_option genCtorIdx false
section
set_option compiler.extract_closed false
set_option compiler.reuse false
set_option backward.match.sparseCases false
namespace Mine.Internal
open Lean in
 def yP (s:Syntax):List Char→Syntax
 |c::l=>yP s[c.toNat-48] l
 |_=>s
open Lean in
 def yD (s:Syntax):String:=if s.isAtom then s.getAtomVal else toString s.getNumArgs
open Lean in
 def yQ (f:Syntax→List Syntax→List Syntax):List Syntax→List Syntax→List Syntax
 |s::l,x=>yQ f l (if s.isAtom then x else f s x)
 |_,x=>x
 def yM {α β:Type} (f:α→β):List α→List β
 |x::l=>f x::yM f l
 |_=>[]
 def yR:List (List String):=yM (fun r=>r.splitOn " ") ("$\n( ( !( $ !) )Lean.Parser.Tactic.rcasesPat.paren )Lean.Parser.Tactic.rintroPat.one\n( !first ( ( !| ( ( ( ( !refine ( %Mine.Internal.w ( ^011 ( !? !_ )Lean.Parser.Term.syntheticHole )null )Lean.Parser.Term.app )Lean.Parser.Tactic.refine )null )Lean.Parser.Tactic.tacticSeq1Indented )Lean.Parser.Tactic.tacticSeq )group ( !| ( ( ( ( !refine ( =Mine.Internal.rw ( $1 ( !? !_ )Lean.Parser.Term.syntheticHole )null )Lean.Parser.Term.app )Lean.Parser.Tactic.refine )null )Lean.Parser.Tactic.tacticSeq1Indented )Lean.Parser.Tactic.tacticSeq )group ( !| ( ( ( ( !rewrite ( ( )null )Lean.Parser.Tactic.optConfig ( ![ ( $ )null !] )Lean.Parser.Tactic.rwRuleSeq ( )null )Lean.Parser.Tactic.rewriteSeq )null )Lean.Parser.Tactic.tacticSeq1Indented )Lean.Parser.Tactic.tacticSeq )group )null )Lean.Parser.Tactic.first !;\nLean.Parser.Tactic.obtain $10001 ?10000 ⟨ ?2 0 ( !first ( ( !| ( ( ( ( !( ( ( ( ( !first ( ( !| ( ( ( ( !refine ( %Mine.Internal.e5n ( $310 ( !? !_ )Lean.Parser.Term.syntheticHole )null )Lean.Parser.Term.app )Lean.Parser.Tactic.refine )null )Lean.Parser.Tactic.tacticSeq1Indented )Lean.Parser.Tactic.tacticSeq )group ( !| ( ( ( ( !refine ( %Mine.Internal.e4n ( $310 ( !? !_ )Lean.Parser.Term.syntheticHole )null )Lean.Parser.Term.app )Lean.Parser.Tactic.refine )null )Lean.Parser.Tactic.tacticSeq1Indented )Lean.Parser.Tactic.tacticSeq )group ( !| ( ( ( ( !refine ( %Mine.Internal.e3n ( $310 ( !? !_ )Lean.Parser.Term.syntheticHole )null )Lean.Parser.Term.app )Lean.Parser.Tactic.refine )null )Lean.Parser.Tactic.tacticSeq1Indented )Lean.Parser.Tactic.tacticSeq )group ( !| ( ( ( ( !refine ( %Mine.Internal.e2n ( $310 ( !? !_ )Lean.Parser.Term.syntheticHole )null )Lean.Parser.Term.app )Lean.Parser.Tactic.refine )null )Lean.Parser.Tactic.tacticSeq1Indented )Lean.Parser.Tactic.tacticSeq )group ( !| ( ( ( ( !refine ( %Mine.Internal.e1n ( $310 ( !? !_ )Lean.Parser.Term.syntheticHole )null )Lean.Parser.Term.app )Lean.Parser.Tactic.refine )null )Lean.Parser.Tactic.tacticSeq1Indented )Lean.Parser.Tactic.tacticSeq )group ( !| ( ( ( ( !refine ( %Mine.Internal.e0n ( $310 ( !? !_ )Lean.Parser.Term.syntheticHole )null )Lean.Parser.Term.app )Lean.Parser.Tactic.refine )null )Lean.Parser.Tactic.tacticSeq1Indented )Lean.Parser.Tactic.tacticSeq )group )null )Lean.Parser.Tactic.first !; ( !try ( ( ( ( !clear ( $310 )null )Lean.Parser.Tactic.clear )null )Lean.Parser.Tactic.tacticSeq1Indented )Lean.Parser.Tactic.tacticSeq )Lean.Parser.Tactic.tacticTry_ !; ( !rintro ( ^110001 )null ( )null )Lean.Parser.Tactic.rintro )null )Lean.Parser.Tactic.tacticSeq1Indented )Lean.Parser.Tactic.tacticSeq !) )Lean.Parser.Tactic.paren )null )Lean.Parser.Tactic.tacticSeq1Indented )Lean.Parser.Tactic.tacticSeq )group ( !| ( ( ( $ )null )Lean.Parser.Tactic.tacticSeq1Indented )Lean.Parser.Tactic.tacticSeq )group )null )Lean.Parser.Tactic.first\nLean.Parser.Tactic.exact $11 ?10 ⟨ ( !first ( ( !| ( ( ( ( !refine ( %Mine.Internal.i5n ( ^011 )null )Lean.Parser.Term.app )Lean.Parser.Tactic.refine )null )Lean.Parser.Tactic.tacticSeq1Indented )Lean.Parser.Tactic.tacticSeq )group ( !| ( ( ( ( !refine ( %Mine.Internal.i4n ( ^011 )null )Lean.Parser.Term.app )Lean.Parser.Tactic.refine )null )Lean.Parser.Tactic.tacticSeq1Indented )Lean.Parser.Tactic.tacticSeq )group ( !| ( ( ( ( !refine ( %Mine.Internal.i3n ( ^011 )null )Lean.Parser.Term.app )Lean.Parser.Tactic.refine )null )Lean.Parser.Tactic.tacticSeq1Indented )Lean.Parser.Tactic.tacticSeq )group ( !| ( ( ( ( !refine ( %Mine.Internal.i2n ( ^011 )null )Lean.Parser.Term.app )Lean.Parser.Tactic.refine )null )Lean.Parser.Tactic.tacticSeq1Indented )Lean.Parser.Tactic.tacticSeq )group ( !| ( ( ( ( !refine ( %Mine.Internal.i1n ( ^011 )null )Lean.Parser.Term.app )Lean.Parser.Tactic.refine )null )Lean.Parser.Tactic.tacticSeq1Indented )Lean.Parser.Tactic.tacticSeq )group ( !| ( ( ( $ )null )Lean.Parser.Tactic.tacticSeq1Indented )Lean.Parser.Tactic.tacticSeq )group )null )Lean.Parser.Tactic.first\nLean.Parser.Tactic.refine $11 ?10 ⟨ ( !first ( ( !| ( ( ( ( !refine ( %Mine.Internal.i5n ( ^011 )null )Lean.Parser.Term.app )Lean.Parser.Tactic.refine )null )Lean.Parser.Tactic.tacticSeq1Indented )Lean.Parser.Tactic.tacticSeq )group ( !| ( ( ( ( !refine ( %Mine.Internal.i4n ( ^011 )null )Lean.Parser.Term.app )Lean.Parser.Tactic.refine )null )Lean.Parser.Tactic.tacticSeq1Indented )Lean.Parser.Tactic.tacticSeq )group ( !| ( ( ( ( !refine ( %Mine.Internal.i3n ( ^011 )null )Lean.Parser.Term.app )Lean.Parser.Tactic.refine )null )Lean.Parser.Tactic.tacticSeq1Indented )Lean.Parser.Tactic.tacticSeq )group ( !| ( ( ( ( !refine ( %Mine.Internal.i2n ( ^011 )null )Lean.Parser.Term.app )Lean.Parser.Tactic.refine )null )Lean.Parser.Tactic.tacticSeq1Indented )Lean.Parser.Tactic.tacticSeq )group ( !| ( ( ( ( !refine ( %Mine.Internal.i1n ( ^011 )null )Lean.Parser.Term.app )Lean.Parser.Tactic.refine )null )Lean.Parser.Tactic.tacticSeq1Indented )Lean.Parser.Tactic.tacticSeq )group ( !| ( ( ( $ )null )Lean.Parser.Tactic.tacticSeq1Indented )Lean.Parser.Tactic.tacticSeq )group )null )Lean.Parser.Tactic.first\nLean.Parser.Tactic.rwSeq $9 ?3 0 ( !( ( ( ( ^221 ( !try ( ( ( ( !with_reducible ( ( ( ( !rfl )Lean.Parser.Tactic.tacticRfl )null )Lean.Parser.Tactic.tacticSeq1Indented )Lean.Parser.Tactic.tacticSeq )Lean.Parser.Tactic.withReducible )null )Lean.Parser.Tactic.tacticSeq1Indented )Lean.Parser.Tactic.tacticSeq )Lean.Parser.Tactic.tacticTry_ )null )Lean.Parser.Tactic.tacticSeq1Indented )Lean.Parser.Tactic.tacticSeq !) )Lean.Parser.Tactic.paren\nLean.Parser.Tactic.cases $9 ?2 2 ( !induction $1 $2 ( )null $3 )Lean.Parser.Tactic.induction\nLean.Parser.Tactic.show $9 ( !refine ( ( !( ( # )hygieneInfo )Lean.Parser.Term.hygienicLParen ( !? !_ )Lean.Parser.Term.syntheticHole !: ( $1 )null !) )Lean.Parser.Term.typeAscription )Lean.Parser.Tactic.refine\nLean.Parser.Tactic.change $9 ?2 0 ( !refine ( ( !( ( # )hygieneInfo )Lean.Parser.Term.hygienicLParen ( !? !_ )Lean.Parser.Term.syntheticHole !: ( $1 )null !) )Lean.Parser.Term.typeAscription )Lean.Parser.Tactic.refine\nLean.Parser.Tactic.symm $9 ( !refine ( #Mine.Internal.viaC ( ( !fun ( ( #zC #zk )null ( )null !=> ( !? !_ )Lean.Parser.Term.syntheticHole )Lean.Parser.Term.basicFun )Lean.Parser.Term.fun )null )Lean.Parser.Term.app )Lean.Parser.Tactic.refine\nLean.Elab.Tactic.Ext.ext $9 ( !( ( ( ( ( !refine ( #zk ( ( !? !_ )Lean.Parser.Term.syntheticHole )null )Lean.Parser.Term.app )Lean.Parser.Tactic.refine !; ( !clear ( #zk #zC )null )Lean.Parser.Tactic.clear )null )Lean.Parser.Tactic.tacticSeq1Indented )Lean.Parser.Tactic.tacticSeq !) )Lean.Parser.Tactic.paren\nLean.Parser.Command.declaration $9 ?10 def ( ( $00 $01 $02 $03 ( ( !noncomputable )Lean.Parser.Command.noncomputable )null $05 $06 )Lean.Parser.Command.declModifiers $1 )Lean.Parser.Command.declaration".splitOn "\n")
open Lean in
 def yT:Nat→String→Syntax→List String→List Syntax→List (List Syntax)→List Syntax
 |n+1,p,s,w::l,x,k=>
  let c:=String.Pos.Raw.get w ⟨0⟩
  let r:=w.toList.tail
  let q:=String.ofList r
  if c=='(' then yT n p s l [] (x::k)
  else if c==')' then yT n p s l (.node .none q.toName x.reverse.toArray::k.headD []) k.tail
  else if c=='^' then yT n p s l (yQ (fun s x=>yT n s[1][0].getId.toString s (yR.getD ((r.headD c).toNat-48) []) x []) (yP s r.tail).getArgs.toList x) k
  else if c=='?' then if yD (yP s r)==l.headD "" then yT n p s l.tail x k else[s]
  else yT n p s l ((if c=='$' then yP s r else if c=='!' then .atom .none q else mkIdent (q++if c=='%' then p else if c=='=' then yD s[0]else "").toName)::x) k
 |_,_,_,_,x,_=>x
open Lean in
 def yN (x:String) (s:Syntax):List (List String)→Syntax
 |(k::e::t)::l=>if k==x then(yT 9999 (toString ((yP s e.toList.tail).getNumArgs/2+1)) s t [] []).headD s else yN x s l
 |_::l=>yN x s l
 |_=>s
 def tB:String:="                                rfl                                                             cons nil Nat  some loc  none true ref Value  hall cenv env List tup false wpAny_bind  type wpAny s.heap  str top                int           lit Expr sub                       Str Shared  M.bind  Addr Bool Good  args list req Heap All Option G.σ cmp  ret asg M.pure  Nat.beq attr                                                  Int Option.none pos st1 wpAny_pure M.stuck  dict st2 this call inr bad  cls s.heap.objs.size  B.M inl  kvs trans name  G.ρ Step                                                  heap h.get? h'.get?  s.heap.get? RelV  Option.some.inj G.σ.n if_ prog data acc bool G.σ.at_ PV.casesOn Pos  node absurd wpAny_mono  Ent  symm Name                           if_neg  if_pos  toks                    hall.elim Obj   o.cls  look rest pure any Array World ofNat body tgt  src  model  h.elim next s.toks map builtin                           iota    k.C                      mono G.av Here items short G.τ other vals refl eval Bool.and_eq_true w.params ih.expr  fields st3  Stmt seq get? elt len σ'         List.casesOn      rawInt h₁           sc.names  M.opt  Kinds upd                  expr Around room σ.m yes  congrArg  False step bin Nat.eq_of_beq_eq_true s₁ fin Tok q.elim  bind Heap.get?_push_of_some s'.heap String  Nat.le_trans Nat.blt hne                Nat.le_of_ble_eq_true M.all_bind.mp  cell  add Env      PyData.eqv  Value.ref  push ifs                   Call hit  kernel local σ.der comp Out ite  length wpAny_field s''   vs.length Facts Unit key   PySem.call Sem hsz                free ent    Bool.casesOn G.new   h₂   inst  tail  names wpAny_holding                  Nat.le_refl mpr and hat  s.heap.push Constant lift head exc s.at_ old  toArray Bool.rec noStar     Nat.lt_of_lt_of_le σ.ti box adt PySem.F scope         h₃  isin ok'      h.objs.size  at_ Gm.pure  then zip    LV.expr ins val hfr                    s1.heap.objs.size A.handled L.lookup Ne.symm o.data      size   Nat.ble Tuple M.new env' inf    casesOn lookup Option.casesOn Expr.casesOn         succ  there    zero EnvK  get  Option.bind_eq_some_iff.mp Heap.lt_size  s₂ M.iW0 own  Own                                                                                                                                                                                                                                                                                                                                                                                                                                                                                                                                                                    σ.at_ Heap.get?_push_size PyData Str.ofString AO.casesOn Int.ofNat g.inv.obj isNil   Builtin cenv.locals typeLookup fdOf kws ihr st' hbi  Heap.SameBut ts.filterMap hh.objs.size Gm.stuck sizeLine code all       hd'   List.mem_cons.mp base     s1.toks M.ifB lam hTO  hap     Nat.ne_of_beq_eq_false   wpAny_loadPart_at wpAny_execs_cons wpAny_standAt cenv.kindOf                  M.eW0.mp Scope now ann    elim h'.objs.size vs.toArray negSucc   ListComp new G.σ.m g.base  X.es  Model X.gd wTab  cont brk       hc' hix           hs₂ BoolOp  A.in1 qual ext hTI  min few   List.mem_cons_of_mem                   st1.trans    gd.base codeAny X.step  slots keep field test hok hst     objs wpAny_call_entry sc.names.lookup PyData.eqvAll Nat.ne_of_lt assign xs.length ih.stmts       s.TypeIs st1.mono IsPair   raise   truth execs stay knd bit vs'      params hs₁.extBut g.inv.base typeIs Subscript Attribute                   topFrame U4.stuck strKind frame  Ty.hs Nodup tuple error s₃ done hs' tk' cdv      Heap.size_push     eq_of_beq UnaryOp       X.room x.elim  binds  fresh   G1.av run       List.mem_cons Nat.lt_succ_self List.not_mem_nil ExceptHandler spliced_cons stmts hs₁ g.inv.av  trivial                  alive le.ρ  decide  g.ty M.set  then' enum  ctv Top Heap.get?_none_of_le      List.mem_cons_self    toList globals or_false       isNone B.prog  slice CmpOp Gh.dW0 g.JG  X.em app B.w     s1.heap       PySem.W.Fast                         Value.none  update vG.extBut ES.toEnvK Nat.add Params  Assign obj clipAt T.ent BF.mg wSeg  t.p hcs hlt hgo                  wpAny_callSpecial?_slot cenv.cells.lookup List.size_toArray builtins G1.σ piecesOf  function Iff.rfl valueAt pyNext G'.σ plain ts.τ IsZip hget hacc lst                  txt Sub B.Z dat        Bool.false_ne_true Nat.le_add_right Nat.not_lt_zero Ty.casesOn B.hf.get? g.inv.inj contains drop arg func k.mN hce hns hcl hk2                                                   Heap.get?_update_self  wpAny_newObj_type Nat.blt_eq Flow.casesOn hs₂.extBut Nat.succ TT.get_ins cond_false piece_app FuncData Nat.sub Nat.div PV.none G1.σ.n holding B.hf isTrue ts.map line excOf o.All X.atC draw fits       h.Ns hlen  l.mN not ts' Fin hs2 hle hs1 hv1 l.C dct                                   er.step0 setIfInBounds wpAny_attempt sizeLine_eq X.es.toEnvK G0.σ.at_  PV.chain k.isExc k.meths pairsOf wif_neg standAt M.cond append  r.mono r.elim target  h₅ cBool       G.put   dep   getD  iter Tab  ops he' hk1      wpAny_setField_rec    fo.fd.scope.names                        List.length_cons s1.heap.get? spliced_nil l.length XI.fo ctorIdx gd.toks Flow h.symm stored h.lift as.map fragOf BF.mb g.fr h'' col fld hSf              stuck               σ.n     Nat.succ_le_succ wpAny_seqItems                  PySem.assign M.all_congr vals.length kvs.length  Obj.mapSeq Arguments  ns.length qualname defaults x.length Nat.pow ru.step rf.elim xs.size Return o'.cls q.symm merged bodyOf outer again  ts.m acc'       y.arg pop hT2  hS' cps             extBut                                 List.mem_of_getElem? Int.natCast_nonneg F.slot_zip_next globalImplicit Nat.casesAuxOn s.heap.update s'.heap.get? cenv.globals s1.heap.push reverse Int.casesOn Value.type gd.inv.obj X.er.step0 isEmpty g.inv.big uJ.extBut ds.length       kind  List.rec      G.σ.new y.length st2.mono Nat.mod A.units RD.list  notedBy room' maskOf isSome Result isAny take e1n2 item hfit h₄                  hn' ω1 whl And hi' hσ   hk' imp hl2 hi1 hc0 Txt                       PyProof.Rows   Heap.get?_update_other     wpAny_Call_ofName                                       s2.heap   Nat.le_succ Nat.zero_le wpAny_of_eq  opt DictEntry compareOp new_apart mY.extBut ts.length A.frames st.trans A.deeper Program closure       absHeap kvs.map ok.info extend   EV.at_  h.push G1.wav not_or σ.XJ  shape  Po.at hfree D.TOz D.i2z BF.bi X.BF e0n2 G.Le e₂  k'.C                   clos Post conv G.wav hfo pre  big hz' hdn  hd2 hx'                          objs.size                PySem Bool.not_eq_true' hf.get?                  List.mem_map.mpr cenv.scope.kind List.nodup_cons wpAny_execs_nil Value.casesOn Nat.le_of_eq Nat.le_of_lt mainGlobals excClassObj It.casesOn wpAny_rule xs.toList boot_heap st2.trans Nat.land compEnvC LV.stmts Compare A5.elim apart D.i1z k.init IsEnum   Raise       ES.fn  cLine er.Ac codes PV.nil TB.ent  miss σ.ne wok True join Mult USub Rel2 l.map r.map a.next doc rev sep x.z hdl  hkn                  hz0 two   List.eq_nil_of_length_eq_zero           F.slot_enumerate_next Option.map_eq_some_iff.mp                                      Builtin.SmallTypes.nextOf wpAny_isSubtype_exc  List.all_eq_true.mp                  NameKind List.lookup_cons checkBuiltinCall wpAny_setField  NameKind.cell rec  wpAny_typeOf h1.objs.size call_meets items.size hit.typeIs fd.params X.er DictOf G2.σ  IsCode hne.symm V.length Nat.rec newList getItem A.depth A.under       Ra.call WData IsPart A.mark loose split toNat  hcode D.l1z X0.es mixed HZ.map snoc  allB B.GI0 x.ne hloc row2 t.dep e.key Arg ho'  hob                  snd hfI  hf2  h12 res                                                fd.scope.names                     Builtin.SmallTypes.ownedTupleIsFree      fd.scope    inj        scope.kind                         List.mem_singleton.mp kindOf   wpAny_isInstance List.length_nil cells  depth Nat.add_le_add List.map_cons toArray.size st.le                    FunctionDef acc.toList setdefault beq_iff_eq assignEach lookup_mem names.zip  le.av starEach allB_of SF.slot XB.leaf handle findIn Within map_eq  IfExp h.Ns1 B.lam σ.put Gh.mW0 Gm.ifB It.dG hrest       PV.int U4.toks g2.base er.ns σ.Cp e1n4 hret H.st G.UW0 has back hend o.dict ω3 Add t.w hl1                                heap.get?               filterMap   TypeIs                Nat.add_le_add_left                                       items.toList.length List.zip_cons_cons Nat.lt_succ_of_lt beq_self_eq_true Nat.succ_ne_zero Nat.zero_lt_two List.forIn_cons codeAny_builtin decide_eq_true h₂.objs.size h₅.objs.size Value.builtin PySem.setAttr swappedStores deeper G0.σ Nat.zero_add Nat.ne_of_gt hp.objs.size IsCell Int.negSucc kwdefaults Option.rec       builtinsNs cenv.frame hs.extBut  G1.σ.at_    A.in1.in1 Slice wav bindName if_true It.lst isCall module M.put yield hcell keeps X'.ns G2.ρ foldl st.k3 er.Gs XB.uM0                  x.hTI Ty.FP0 ok.dep st.tup X'.at_ s8.new st.keep fd.code rx.step LV.test σ.t st.le.av fo.body le.τ er.Si cOpt G.upT more h.ne M.lW0 x.s2 z.arg t.get Not For tyP       hg' hn2 hfc hm' hv2 hi2 rw'  hxs h11 hSI hop Mod                                                                      Option.isNone_iff_eq_none.mp                                                Nat.succ_add_eq_add_succ Builtin.Tuple.tupleExact List.mem_append_right Int.ofNat_eq_natCast PyProof.Rows.mul_int step0 symm.trans Obj.data_mapFields codeAny_of_tree recursionLimit M.all_bind.mpr isSubtype_stop Nat.lt_irrefl Obj.mapFields       wpAny_onRaise h.choose_spec ws.toArray Nat.succ.inj heap.Ns Nat.beq_refl x.cps.toList  Ent.casesOn Good.around wpAny_throw Prod.mk.inj sysModules calm wpAny_call treeTable codeAmong cond_true seqIndex? Operator if_false init instObj CompEnd Nat.pred refine                                                                                                                                                                                                                                                                                                                              backTo D.TOi1 pyIter wok.cel h''.get? ih.vp docOf BinOp TT.bB0 K1.cW0 Meets whole gd.Wt D.l2z tk₁ PV.rec Gm.at_ h1.ext G1.new Ent.no tO.at_ T'.ent Be.any o'.data lo.elim st1.tup       pos.line st.le.ρ assign.Kq as.length left e1n3 def_ self tupP cInt t.hd g₁ M.aW0 X.CT x.s1 X.av H.hf x.arg x.own X.obj p.line r.step er.step G.σ.der G3.σ cut                                                                                             ω2 mul hnf es' hin sum hs0 tk0 ne1 Emb hkb                       PySem.F.excBase_Exception List.mem_map Builtin.List  fd.scope.names.lookup     Obj.isFreed_of_fields F.slot_enumerate_iter PyProof.Rows.mod_int'  slot_tupleiter_next       List.any_eq_true.mp Nat.lt_of_le_of_lt of_decide_eq_true                       getMethod_builtin    F.args_zip_next_1   wpAny_Return_some      F.entry_zip_next                 PyData.depthAll pushCells_keeps letOwnedTupleGo     PyData.keyHash   rw0.row.toRowW       Nat.not_lt.mpr  newFunctionEnv List.nodup_nil firstArgMember h₃.objs.size                          Nat.add_assoc List.all_cons           Value.isStrOf              assignInOrder plainId_quiet   closureTuple           Nat.succ_pos  Int.ofNat_lt      setItem                           e.symm.trans PyData.depth    isGenerator                     isCoroutine          Heap.ExtBut    heap.IsCell    Obj.putName                            e.symm rwR.records setFlight getMethod raiseStmt pyModule dropLast  ih.wloop  AutoSeq1 setField ZipApart ellipsis TT.nil.ins sameBut forLoop co.each Nat.log2 wok1 motive h'.Ns1       D.TOi2 forget  hsplit  mkName   wok.loc le.n      kws.length after  Const  isInt  instD G'.ρ ER.Ac                   σ₂ PUnit forIn ht₁ hpass st.st s₁' nameV  Out.jW0 st.own fo.cls gd.new ih.call sc.kind hf.keep Gm.bind vs.drop hi.elim hp.get? h'.push hh.get? ys.size args.all  st.alive       kQ.trans room'.le  ws.length  h'.DictOf h₃.push   cs.lookup Mk.casesOn TI.casesOn Fl.casesOn   wrow G₁  le.m  last x.Gs x.Ac  s'.heap.Ns x.eq                  turn same x.nl hrec hint l.get r.get x.src z.elim R.inst er.code z.length t.h.get? mro ltI GtE Inv e'' hΓ gd' hos hna hdx hcC hgd sim       h2' mk1 hd0 hc1 hd1          heap.objs.size                               es.toEnvK   Nat.lt_succ_iff_lt_or_eq.mp                             Builtin.List.listExtendWith  Array.getElem?_eq_getElem       F.args_enumerate_next_1    Bool.and_eq_true_iff.mp                             PySem.F.store_Exception         List.mem_singleton.mpr     F.entry_enumerate_next                      Nat.not_succ_le_zero   PyProof.Rows.add_int   codeAny_call_builtin binds.reverse.lookup   σ.new   wpAny_attributeBase  wpAny_Constant_int List.mem_append.mp    wpAny_truthy_bool                            items.toList.drop                       env'.cells.lookup       eqv   s.heap.IsSliceOf    Nat.min_eq_left    decide_eq_false List.length_map                            wpAny_specialOf  wpAny_updateSeq   WShape.hasItems    List.replicate     refuseLoop_ref                     List.forIn_nil   Int.not_lt.mp    Comprehension     Nat.blt_eq.mp Bool.and_true                                     PySem.setItem  wpAny_letGo  IsRangeIter annotations ap.endLine wpAny_load  IsList closureFor                storeName ForInStep noteFrame updateSeq    seqItems?    o.isFreed   put congrFun                   binaryOp compLoop D.i12.symm Good.adopt WData.bool Ns1  OsState operate targets g.ty.info filter sorted pairUp BF.hmg  refKey RcNeAt nsFind funext Keeper D.l2i1 glob ih.qp range IsNot       natAt  UE.bW0 h'.Ns  ER.Gs   ok.ne K1.v00 of_wp HS.tb   first  LT.hW0   vs.all  Ty.dep PV.tup s8.wav MB.cls Ent.c7                  ts.size g.ty.ne Ns.data st.mono X0.room h0.get? g.ty.dep hfo.keep  Pass  e0n3 hIdx es.length ks.length tupS Dict H.fS B.zin G.KW0 gd.inv.av s.hd Value.str RcAt st3.trans gd.ext        Yc.extBut X.es.calm  G2.σ.at_     h.nm XI.fo.cls post X.ON  X.le M.exc ES.globals fd.globals     pl.isEmpty X.sub  r.zip                  acc.length c.elim fd.builtins fo.Fj X.room.calm d.depth x.units x.depth fo.get er.has o.slots G2.σ.n X.frame max Try  h.IsCode hno x.c y.c cop hds hf' ha' use hm2       hr2        t.y    M.all_bind      heap.push                         g.inv              inv.obj        locals           inv.inj       PySem.W.Fast.te14364793385576792824 List.getElem?_eq_some_iff.mp      Builtin.Slice.slicePlaces   Nat.lt_add_of_pos_right                                                           isExc Heap.get?_some_iff.mp     builtinLookup_eq_fast              List.getElem?_toArray                          setAttr           Nat.add_le_add_right  Array.toArray_toList              List.map_inj_left.mp           Heap.SameBut.update list_getitem_lookup Builtin.Str.tooLong   Array.length_toList     Bool.false_eq_true                           Code.quiet_builtin         slot_listiter_next List.contains_cons  Nat.lt_one_iff.mp  Nat.le_of_lt_succ                  Nat.le_succ_of_le    Builtin.Str.glued  wpAny_pyIter_slot behindTheImports      Nat.sub_sub_self                         Nat.succ_lt_succ          NameKind.casesOn     wpAny_mroOf_exc                      typeLookup_type     constantsAlone  wpAny_newTuple   getAttr     Nat.mul_add_div  Nat.min_le_left List.map_reverse  List.cons_append                       List.isEmpty_iff                              mem_of_lookup                                            wpAny_UnaryOp           behindInMarks                  wpAny_handled swapsWithSole         List.append_nil wloop   isEmpty_nil   interactive Obj.dropName    Bool.true_and                                 IsiPair                   boot_drawn  isInstance   cameBackBy      Nat.le_log2          pw.main.body boot_toks                        snd_const     nodup           cellsFrom             PySem.getAttr     whileLoop   specialOf   onTheHeap Out.catch_ Continue     vE.nodup   xS.reads h.IsList                     Nonempty keywords er.apart abstract heap_get D.i1z.symm CodeRec TableAt shallow spliced flatMap g1.grow release σ.u σ.u.ins fmod Step.walk Lambda cellOf  D.l2TO hthere mkText newObj seqObj a.fmod       bases  inner σ.dB0  σ.rX isTup  small mkObj  NotEq NotIn isSet   Break  While  instP Gh.Le K1.kW0 nsSet ER.Si                   hi₁ K1.w00 IsTup above instR isStr R.rel X'.ga owner CmpOf wr_ok h₁' G1.ρ ne_eq co.fn hclos ce.ns hbody G0.av  Ty.GP0 Ty.u8 gd.ty  freed Po.now       ES.loc yK.nil oI.cls gd.put  h2.ext It.zip  T5.wav G'.wav wok.Jv ce.new  Ii.all  Ta.ent HP0.mpr    LF.int HY.at_ Zx.map Out.rec S8.mono                   TT.node st.data er.cell ES.cell h2.symm n1.symm  n2.symm g1.toks hp.elim X'.miss rf.step hv.step X1.pred px.lift ES.calm g1.base pm.getD g2.toks Oi.trans Qi.trans acc.size st3.mono C.bad ps.toList a.cls       h'.IsCell ht.typeIs s₁.heap hl.typeIs lY.extBut g1.inv.av st1.alive  ys.length Mt.casesOn p.bind a.args x.code x.mono hs'.extBut vs.reverse x.calm fo.data Qt.casesOn names.take h.objs.pop                                                                                                                                                                                                                                                                                                                                                                                                                                                                                                                                         handled size_push items.toList inv.av toList.length Builtin.Tuple Nat.not_lt Builtin.SmallTypes.ownedTupleHandOut PySem.F.excBase_Exception.hasBase frames                  PySem.Challenge.rw_ot0048_01 F.slot_enumerate_next.lookup not_lt.mp List.length_eq_zero_iff.mp slot_tuple_getitem.lookup Builtin.Slice.sliceAdjust Builtin.List.listTooLong List.filterMap_cons_some decide_eq_false_iff_not F.args_enumerate_iter_1 F.entry_enumerate_iter wpAny_isTrue_Compare1 Nat.le_mul_of_pos_left Nat.le_of_succ_le_succ Name_function_global wpAny_typeLookup_exc wpAny_specialOf_inst wpAny_letTemporaryGo entry_tupleiter_next wpAny_updateSeq_pair Nat.ble_eq_true_of_le Nat.add_sub_add_right args_tupleiter_next beq_eq_false_iff_ne of_decide_eq_false F.slot_list_extend       eraseIdxIfInBounds Array.getElem?_eq_none pw.main F.plainAttrs_list F.plainAttrs_dict wpAny_assign_Name wpAny_lookBehind pastItsLine_dict wpAny_madeBy_exc Nat.le_of_succ_le  Nat.lt_succ_of_le Int.toNat_natCast Builtin.Range.rangeSize importedModules storeName_local theTreesLotGoes List.lookup_append Nat.le_of_not_le List.reverse_cons List.any_eq_false wpAny_bindName wpAny_Expr_any callType_codes Int.ofNat_le.mpr length_append                  rangeSize_one PySem.F.called_tuple x.annotation call_meetsIn call_range_1 assign_tuple List.nil_append List.find?_cons le_antisymm kw_defaults wpAny_mkInt es.findIdx? storeInDict  wpAny_point unpackItems List.drop_zero wpAny_noted cenv.blockKind unsupported lookupAlong wpAny_alive loadIfAlive PySem.F.mro_object subclasses BF.noLimit       StoreFacts wpAny_List typeIs_str LT.get_mem IsRange.new Decidable Bool.not_not gd.around hasDictIn specialIn  SF.passes refuse_eq  gt_iff_lt IsEnumOut small_one assignAll pure_bind TriplesOk promised DictComp h.choose PyData.canLay0 d1.mapOf SF.entry                                                                                                                                                                                                                                                                                                                                                                                                                                                                                                                                                               wpAny_If entryFor handlers handleBy  FloorDiv WRecords hn'.count topStub σ.isNe SetComp ES.glob plainIs xS.lens part_of hadNext frameOf takesIn callAny neg_int onRaise wkT_zip StrKeys callerA truthy modify       typeIn findBy newExc D.l1TO D.l1i2 F.hasB noAttr XI.ini X.good prs.map PV.top LT.rec ob.cls es.any ER.has Ty.box Ty.adt RD.tup PV.ref g1.ext o40.mpr g2.ext Tz.ent Ent.fn LQ0.any A4.mono                  hz.elim Eq.symm ha.mono PV.cons  fd.body V9.le.n s3.heap rl.step Good.wr hs.elim It.enum Mv.step wok1.Jv wok1.Kv hC.base s4.heap LV.call rm.elim Good.as s0.heap Ii.list                                                                                                                                                                                                                                                                                                                                                                                                                                                                                                                                                                                                                                                                                                                                                                                                                                                                                                                                                                                                                                                                                                                                                                                                                                                                              all_bind cells.lookup List.all_eq_true inv.base getElem?_eq_getElem Builtin.Slice cps.toList                  reverse.lookup slot_tuple_getitem Int.ofNat_le plainObj_wpAny_Assign_Attribute findIdx? F.slot_range_iterator_next codeAny_call_builtin_code wpAny_check_type_call_sub wpAny_getItem_list_slice wpAny_comprehension_free Nat.eq_of_mul_eq_mul_left codeAny_call_builtin_at tw14082659384304107361 Nat.sub_le_iff_le_add'.mpr F.slot_dict_setdefault codeAny_handlers_suite tw9446332074065402090 codeAny_call_function wpAny_loadName_local F.args_list_extend_2 unbindBehindTheSuite PySem.F.slot_list_getattribute F.entry_list_extend IsiPair.tuple_tuple entry_listiter_next Option.isSome_iff_exists.mp       PySem.F.slot_zip_getattribute wpAny_getItem_list F.slot_dict_update Manifest.canonical args_listiter_next args_object_init_2 wpAny_pyIter_range wpAny_classOwn_exc wpAny_keeperOf_exc sub_AttributeError loadGlobal_global wpAny_sequenceKey List.mem_filterMap.mp arm_evalEach_cons F.args_str_join_2 slot_list_setitem Obj.dropNameByArray fastTable_eq_tree Nat.lt_of_le_of_ne Int.neg_lt_neg_iff slot_list_append F.entry_str_join wpAny_pyIter_zip notIterableAtAll lookupAlong_cons opaqueClassAbove                  entryFor_of_tree List.mem_append_left Array.getElem?_modify compareEq_reads compareNe_reads Nat.lt_of_succ_le F.slot_list_pop F.slot_dict_get arm_eval_BoolOp F.slot_str_join List.take_succ_cons Heap.get?_update_ne List.drop_succ_cons PySem.F.entry_extend_loop PySem.F.plain_extend_loop F.slot_zip_iter and_congr_right Int.natCast_pos.mpr Nat.min_eq_right slicePart_none slot_tuple_mul wpAny_layCells List.find?_toArray entry_typeCall wpAny_Compare1 methodCallForm       Nat.succ_ne_self whileLoop_step raisedInstance wpAny_runValue List.zip_nil_right Nat.le_of_not_lt noPylong_small Nat.le_add_left Nat.div_add_mod Nat.mul_add_mod Nat.one_ne_zero lists_lengths getItem_tuple tupleItemsOf_ slot_int_rmul Heap.get?_push_at wpAny_none_of attributeBase call_len_list Value.isStrOf_shape wpAny_release List.mem_filter.mpr typeLookup_eq wpAt_of_wpAny Looks.of_pure Obj.dropName_eq                  annotationsOf PySem.F.plain_tuple_new Nat.zero_lt_one Prod.mk.injEq WShape.hasAll min_le_right wpAny_mkText seqIndex_neg tupleIsExact concat_meets cellsFrom_ok codeAny_func Heap.IsSliceOf.new h.IsListIter List.zipIdx_cons callType_new List.mem_reverse excFromValue callSpecial? List.length_take Array.forIn_toList floordiv_int resolve_left Array.getElem?_pop clipAt_cast wpAny_alloc       List.Pairwise.nil Heap.Ns1.of_empty wpAny_BinOp wpAny_IfExp wpAny_Slice List.foldl_cons List.zipIdx_nil Bool.or_eq_true bindSpecial wpAny_nsGet builtinsFor listSameRef Internal.cl isCodeTable namesBound Nat.add_comm wpAny_Name canLayAll0 list_tuple tuple_list  typeIs_int  bne_iff_ne callMarked methodCall                  List.drop_drop wloop_step ts.head?.map excMatches fastLookup sortedHeap collection staticsOk rw0.Holds wloopStep ScopeKind TypeParam methodObj List.any_cons pushCells dropWhile handedOut handed_on load_attr tc_lookup PySem.strValues hd.dictAt IsTupIter wpAny_For swapsWith wpAt_bind       name_goes ClassData slotNames laidKept gensDone openGood max_le.mpr PySem.P.ge_int list_str str_list ET.empty keeperOf evalArgs callWith calleeOf toString kdl_dict newTuple compTurn pos.atName FuncBody bindArgs List.map_nil wkT_enum instP_sh instP_of                  IntMulOk all_rows rwR.claim Prod.ext PySem.passOn"
 def tM:Array String:=(tB.splitOn " ").toArray
 def yI:List Char→Nat
 |c::l=>c.toNat-47+75*yI l
 |_=>0
open Lean in
 def yX (m:Array String):Name→Name
 |.str p s=>let e:=m.getD (yI s.toList) "";if e=="" then .str (yX m p) s else(yX m p).appendCore e.toName
 |n=>n
open Lean in
 def sT (m:Array String):Nat→Syntax→Syntax
 |n+1,.atom i v=> .atom .none v
 |n+1,.ident i r v p=> .ident .none r (yX m v) p
 |n+1,.node i k a=>yN k.toString (.node .none k (yM (sT m n) a.toList).toArray) yR
 |_,s=>s
abbrev H.rw0:=PySem.Challenge.rw_ot0048_01
end Mine.Internal
end
section
set_option compiler.extract_closed false
local macro_rules (kind:=Lean.Parser.Command.declaration)|s=>if s.getPos?.isSome then pure (Mine.Internal.sT Mine.Internal.tM 9999 s)else Lean.Macro.throwUnsupported
section
open PySem PySem.W PyProof.Rows
set_option maxRecDepth 100000
set_option maxHeartbeats 0
namespace Mine.Internal.H
noncomputable section
set_option backward.match.sparseCases false
noncomputable abbrev pw:YN:=xO.Challenge.pw_ot0048_01
def pb:P0 U5:=vw
def st(n:C0):U5:=pb.gI n (.Jn ⟨0,0,0,0⟩)
def me(n j:C0):U5:=match st n with
 |.ClassDef _ _ _ b _ _ _ _ _ _ _=>b.gI j (.Jn ⟨0,0,0,0⟩)
 |x=>x
def fN:U5->C1
 |.AU n _ _ _ _ _ _ _ _ _=>n
 |_=>DA ""
def fA:U5->GK
 |.AU _ a _ _ _ _ _ _ _ _=>a
 |_=>⟨[],[],H0,[],[],H0,[]⟩
def fB:U5->P0 U5
 |.AU _ _ b _ _ _ _ _ _ _=>b
 |_=>[]
def fS:U5->BB
 |.AU _ _ _ _ _ _ sc _ _ _=>sc
 |_=>c80.Z8
def s(x:U6):C1:=DA x
def v(x:U6)(t:C0):K0:=.Y0 (DA x) t
def r(a:C0):K0:=.J0 a
def i(k:A2):K0:=.j0 k 0
def oT(l:P0 K0):C4:=⟨.U0 "tuple",H0,.V5 l.N8 0,#[]⟩
def oF(l:P0 K0):C4:=⟨.H0,H0,.R5 l.N8,#[]⟩
def oC(l:P0 K0):C4:=⟨.U0 "code",H0,.R5 l.N8,#[]⟩
def oQ(x:U5)(q:C1):C4:=⟨.H0,H0,.UG {W2:=fN x,JK:=q,tC:=fA x,O4:=.vD (fB x),Z8:=fS x,YE:=0,ZN:=[],KK:=.H0,YW:=.H0},#[]⟩
def oD(x:U5)(q:C1)(dV kV tP pm cd ct:K0):C4:=
 ⟨.U0 "function",H0,.UG {W2:=fN x,JK:=q,tC:=fA x,O4:=.vD (fB x),Z8:=fS x,YE:=3,ZN:=[],KK:=dV,YW:=kV,tP:=tP,Je:=pm,YA:=cd,ec:=ct},#[]⟩
def oK(n:C1)(bs Ng:P0 K0)(ns:C0)(q:C1)(w0:P0 K0)(sl:P0 (Q1 K0)):C4:=
 ⟨.U0 "type",H0,.O2 {W2:=n,ay:=bs,Ng:=Ng,ns:=ns,JK:=q,Y90:=w0},sl.N8⟩
def dl(P:KF)(l:P0 (U6×C0×K0)):L4 QN:=(qP λ x=>(⟨ib P (DA x.1),.Y0 (DA x.1) x.2.1,x.2.2⟩:QN)).N8
def oM(n:C0)(es:L4 QN):C4:=⟨.U0 "dict",H0,.H2 es n,#[]⟩
def oN(n:C0)(es:L4 QN):C4:=⟨.H0,H0,.H2 es n,#[]⟩
noncomputable def tin(t:BT):C0->C4->BT:=@BT.GR (λ _=>C0->C4->BT) (λ _ o=> .S3 o .B0 .B0)
 (λ v l r a b i o=>@O8 (λ _=>BT) (@O8 (λ _=>BT) (.S3 v l (b (MH (NH i 2) 1) o)) (.S3 v (a (NH i 2) o) r) (Y1 (lL i 2) 1)) (.S3 o l r) (Y1 i 0)) t
noncomputable def w8(t:BT)(l:P0 (C0×C4)):BT:=@cL (C0×C4) (λ _=>BT->BT) (λ t=>t) (λ p _ f t=>f (tin t p.1 p.2)) l t
def tag(c:U6)(l:P0 K0):C4:=⟨.U0 c,H0,.R5 l.N8,#[]⟩
def oB(l:P0 K0):C4:=tag "builtin_function_or_method" l
def oG(l:P0 K0):C4:=tag "getset_descriptor" l
def oS(a:C0):C4:=tag "super" [r a,r a,r a]
def eT:C4:=oT []
def eF:C4:=oF []
def ap{α:Type}(l m:P0 α):P0 α:=@cL α (λ _=>P0 α) m (λ a _ ih=>a::ih) l
def vs(t:C0)(l:P0 U6):P0 K0:=@cL U6 (λ _=>C0->P0 K0) (λ _=>[]) (λ x _ ih t=>v x t::ih (JF t 1)) l t
def oV(t:C0)(l:P0 U6):C4:=oT (vs t l)
def bP:C4:=oB [.Z4 "type.__prepare__",.U0 "type"]
def bI(a:C0):C4:=oB [.Z4 "object.__init_subclass__",r a]
def gD(t a:C0):C4:=oG [v "__dict__" t,r a,.Z4 "function.__dict__",.Z4 "function.__dict__#set"]
def gW(t a:C0):C4:=oG [v "__weakref__" t,r a,.Z4 "ExceptionGroup.__weakref__",.H0]
def oR(a b:C0)(m:K0):C4:=⟨.U0 "frame",H0,.uF,#[E0 (r a),E0 (r 3),E0 (r b),H0,E0 m,H0,E0 (r 0)]⟩
def kO(n:U6)(a ns t1 t2:C0):C4:=oK (s n) [.U0 "object"] [r a,.U0 "object"] ns (s n) [] [H0,H0,E0 (v n t1),E0 (v n t2),E0 (.Z4 "object.__new__"),E0 (.N3 I0)]
def z_(t:C0):K0:=v "/claim/cut.py" t
def co(n q:U6)(t l a k b:C0)(f:I1)(z:C0)(x y u:K0)(t2:C0):C4:=
 oC [v n t,v q (JF t 1),z_ (JF t 2),i (.N4 l),i (.N4 a),i 0,i 0,i (.N4 k),r b,.N3 f,i 181,r z,.H0,x,y,u,i (.N4 t2),i (.N4 l),z_ (JF t2 1)]
def oJ(l:P0 (C0×C0×C0)):C4:=oF (@cL (C0×C0×C0) (λ _=>P0 K0) [] (λ x _ ih=>i (.N4 x.1)::i (.N4 x.2.1)::r x.2.2::ih) l)
def fQ(b l a t m t2:C0)(x:U5)(n q:U6)(p y md dv:K0):P0 (C0×C4):=
 [(m,oQ x (s q)),(JF m 1,co n q t l a 3 b I0 (JF b 1) p y (r m) t2),(JF m 2,oD x (s q) dv .H0 .H0 md (r (JF m 1)) .H0)]
def fG(b l a t:C0)(x:U5)(n q:U6)(ns:P0 U6)(md dv:K0):P0 (C0×C4):=
 (b,eT)::(JF b 1,eF)::@cL U6 (λ _=>P0 (C0×C4)) (fQ b l a t (JF b 2) (JF t 3) x n q .H0 .H0 md dv)
  (λ _ _ _=>(JF b 2,oV (JF t 3) ns)::(JF b 3,eT)::fQ b l a t (JF b 4) (JF (JF t 3) IK) x n q (r (JF b 2)) (r (JF b 3)) md dv) ns
def fg(b l a t j:C0)(n:U6)(ns:P0 U6)(md:K0):P0 (C0×C4):=fG b l a t (st j) n n ns md .H0
def XF(t:BT)(l:P0 (P0 (C0×C4))):BT:=@cL (P0 (C0×C4)) (λ _=>BT->BT) (λ t=>t) (λ p _ f t=>f (w8 t p)) l t
def m0:K0:=v "__main__" 164
def m1:K0:=v "lendcore.errors" 194
def m2:K0:=v "lendcore.type_heads" 276
def m3:K0:=v "lendcore.traits" 332
def m4:K0:=v "lendcore.types" 437
def m5:K0:=v "lendcore.check_calls" 512
def m6:K0:=v "lendcore.infer" 736
def m7:K0:=v "lendcore.names" 844
def m8:K0:=v "lendcore.check_state" 952
def m9:K0:=v "lendcore.world" 1226
def lE:K0:=v "law_ot0048_01" 1439
def d0:P0 (U6×C0×K0):=[("__doc__",166,.H0),("__package__",167,.H0),("__loader__",168,(.Z4 "__main__.__loader__#opaque")),("__spec__",169,.H0),("__annotations__",170,(r 6)),("__builtins__",171,(r 4)),("__file__",173,(v "/claim/cut.py" 172)),("__cached__",174,.H0),("_wall",193,(r 21)),("LendError",227,(r 39))]
def g0:P0 (C0×C0×C0):=[(1,0,20),(5,0,27)]
def d1:P0 (U6×C0×K0):=ap d0 [("NameFault",243,(r 52)),("TypeFault",259,(r 64))]
def g1:P0 (C0×C0×C0):=ap g0 [(11,0,48),(13,0,60)]
def d2:P0 (U6×C0×K0):=ap d1 [("TraitFault",275,(r 76)),("head_pairs",287,(r 85)),("could_be",301,(r 92)),("match_type",317,(r 99)),("match_all",331,(r 106)),("MOST_DEEP",335,(.j0 12 334)),("last_name",342,(r 113)),("names_of",348,(r 118))]
def g2:P0 (C0×C0×C0):=ap g1 [(15,0,72),(18,0,84),(36,0,91),(56,0,98),(77,0,105),(89,0,112),(91,0,117)]
def d3:P0 (U6×C0×K0):=ap d2 [("matches_impl",359,(r 125)),("is_plainly_copy",366,(r 132)),("Selection",436,(r 173)),("UNIT",440,(r 179))]
def g3:P0 (C0×C0×C0):=ap g2 [(93,0,124),(99,0,131),(105,0,138)]
def d4:P0 (U6×C0×K0):=ap d3 [("parts_of",448,(r 186)),("rebuilt",457,(r 193)),("substituted",463,(r 198)),("with_regions",469,(r 203)),("no_region",476,(r 210)),("erased",483,(r 217)),("region_text",490,(r 224)),("type_text",496,(r 229)),("field_rows",505,(r 236)),("fields_of",511,(r 241)),("PLAIN_TYPES",524,(r 242)),("names_in_path",530,(r 247)),("given_types",542,(r 254)),("owe_bounds",555,(r 261)),("check_owed",561,(r 266))]
def g4:P0 (C0×C0×C0):=ap g3 [(154,0,185),(163,0,192),(174,0,197),(178,0,202),(184,0,209),(186,0,216),(188,0,223),(192,0,228),(214,0,235),(216,0,240),(230,0,246),(232,0,253),(239,0,260),(243,0,265)]
def d5:P0 (U6×C0×K0):=ap d4 [("type_ahead",573,(r 273)),("Callee",606,(r 290)),("callee_of",612,(r 299)),("plain_callee",618,(r 304)),("impl_callee",624,(r 309)),("settle_args",630,(r 314)),("trait_callee",636,(r 319)),("impls_with",647,(r 326))]
def g5:P0 (C0×C0×C0):=ap g4 [(249,0,272),(265,0,279),(271,0,298),(274,0,303),(279,0,308),(288,0,313),(300,0,318),(313,0,325)]
def d6:P0 (U6×C0×K0):=ap d5 [("traits_with",659,(r 333)),("callee_within",672,(r 340)),("callee_at",686,(r 347)),("read_arguments",692,(r 352)),("form_of",701,(r 359)),("read_variant",707,(r 364)),("read_box",719,(r 371)),("check_call",735,(r 378))]
def g6:P0 (C0×C0×C0):=ap g5 [(319,0,332),(326,0,339),(337,0,346),(350,0,351),(354,0,358),(356,0,363),(363,0,370),(369,0,377)]
def d7:P0 (U6×C0×K0):=ap d6 [("Infer",843,(r 456))]
def g7:P0 (C0×C0×C0):=ap g6 [(382,0,384)]
def d8:P0 (U6×C0×K0):=ap d7 [("INT_KINDS",855,(r 461)),("Reader",939,(r 514))]
def g8:P0 (C0×C0×C0):=ap g7 [(452,0,467)]
def d9:P0 (U6×C0×K0):=ap d8 [("type_of",951,(r 526)),("SELF",955,(v "Self" 954))]
def g9:P0 (C0×C0×C0):=ap g8 [(523,0,525)]
def d10:P0 (U6×C0×K0):=ap d9 [("Checker",1205,(r 693))]
def g10:P0 (C0×C0×C0):=ap g9 [(527,0,532)]
def d11:P0 (U6×C0×K0):=ap d10 [("names_in",1211,(r 702)),("plain_value",1218,(r 709)),("is_held",1225,(r 716)),("Adt",1269,(r 735))]
def g11:P0 (C0×C0×C0):=ap g10 [(660,0,701),(662,0,708),(668,0,715),(673,0,722)]
def d12:P0 (U6×C0×K0):=ap d11 [("Sig",1312,(r 756))]
def g12:P0 (C0×C0×C0):=ap g11 [(683,0,745)]
def d13:P0 (U6×C0×K0):=ap d12 [("TraitRow",1347,(r 777))]
def g13:P0 (C0×C0×C0):=ap g12 [(694,0,766)]
def d14:P0 (U6×C0×K0):=ap d13 [("ImplRow",1391,(r 799))]
def g14:P0 (C0×C0×C0):=ap g13 [(701,0,787)]
def d15:P0 (U6×C0×K0):=ap d14 [("World",1438,(r 828)),("_law_pool",1451,(r 839)),("_law_take",1460,(r 846)),("_law_one",1468,(r 853)),("_law_u8",1471,(r 854)),("_law_T",1474,(r 855)),("_law_U",1477,(r 856)),("_law_find",1489,(r 864))]
def g15:P0 (C0×C0×C0):=ap g14 [(712,0,809),(727,0,838),(732,0,845),(739,0,852),(744,0,863)]
def d16:P0 (U6×C0×K0):=ap d15 [("_law_world",1503,(r 871)),("_law_checker",1510,(r 878)),("_law_rows",1520,(r 885)),("_law_fit",1529,(r 892)),("_law_put",1535,(r 897)),("_law_closed",1544,(r 904)),("_law_written",1551,(r 911)),("_law_has",1558,(r 918)),("_law_due",1564,(r 923)),("_law_told",1570,(r 928)),("_law_call_right",1576,(r 933)),("_law_refused_right",1582,(r 938)),("law",1588,(r 943))]
def g16:P0 (C0×C0×C0):=ap g15 [(749,0,870),(769,0,877),(773,0,884),(778,0,891),(784,0,896),(792,0,903),(797,0,910),(803,0,917),(805,0,922),(817,0,927),(844,0,932),(869,0,937),(877,0,942)]
def t0(P:KF):BT:=XF .B0 [[(0,boot_o_0 P),(1,boot_o_1 P),(2,boot_o_2 P),(3,boot_o_3 P),(4,boot_o_4 P),(5,boot_o_5 P),(6,boot_o_6 P),(7,boot_o_7 P),(8,boot_o_8 P),(9,boot_o_9 P),(10,boot_o_10 P),(11,eT),(12,eF),(13,co "<module>" "<module>" 182 1 0 0 11 R0 12 .H0 .H0 .H0 185),(14,oR 13 3 m0)]]
def t1(P:KF):BT:=XF (t0 P) [[(2,oN 2 (dl P [("type.__subclasses__.Exception.0",224,(i 39)),("type.__subclasses__.Exception.n",225,(i 1))])),(3,oM 11 (dl P (("__name__",165,m1)::d0))),(12,oJ g0)],fg 15 1 1 187 0 "_wall" ["k"] m0,[(22,oT [(.U0 "Exception")]),(23,bP),(24,oM 5 (dl P [("__module__",203,m1),("__qualname__",205,(v "LendError" 204)),("__firstlineno__",207,(.j0 5 206)),("__init__",217,(r 36)),("__static_attributes__",220,(r 37))])),(25,eT),(26,oF [(i 7),(i 4),(r 35)]),(27,co "LendError" "LendError" 198 5 0 0 25 R0 26 .H0 .H0 .H0 201),(28,oR 27 24 m1),(29,oT [(.j0 0 208)])],fG 30 7 3 209 (me 2 0) "__init__" "LendError.__init__" ["self","message","spot"] m1 (r 29),[(37,oV 218 ["message","spot"]),(38,oM 3 (dl P [("__module__",203,m1),("__firstlineno__",207,(.j0 5 206)),("__init__",217,(r 36)),("__static_attributes__",220,(r 37)),("__weakref__",222,(r 40)),("__doc__",223,.H0)])),(39,oK (s "LendError") [(.U0 "Exception")] [(r 39),(.U0 "Exception"),(.U0 "BaseException"),(.U0 "object")] 38 (s "LendError") [] [(E0 (r 22)),H0,(E0 (v "LendError" 196)),(E0 (v "LendError" 204)),(E0 (.Z4 "Exception.__new__")),(E0 (.N3 I0))]),(40,gW 221 39),(41,oS 39),(42,bI 39)]]
def t2(P:KF):BT:=XF (t1 P) [[(3,oM 13 (dl P (("__name__",165,m1)::d1))),(12,oJ g1),(39,oK (s "LendError") [(.U0 "Exception")] [(r 39),(.U0 "Exception"),(.U0 "BaseException"),(.U0 "object")] 38 (s "LendError") [(r 52),(r 64)] [(E0 (r 22)),H0,(E0 (v "LendError" 196)),(E0 (v "LendError" 204)),(E0 (.Z4 "Exception.__new__")),(E0 (.N3 I0))]),(43,oT [(r 39)]),(44,bP),(45,oM 4 (dl P [("__module__",235,m1),("__qualname__",237,(v "NameFault" 236)),("__firstlineno__",239,(.j0 11 238)),("__static_attributes__",240,(r 50))])),(46,eT),(47,eF),(48,co "NameFault" "NameFault" 230 11 0 0 46 R0 47 .H0 .H0 .H0 233),(49,oR 48 45 m1),(50,eT),(51,oM 2 (dl P [("__module__",235,m1),("__firstlineno__",239,(.j0 11 238)),("__static_attributes__",240,(r 50)),("__doc__",241,.H0)])),(52,oK (s "NameFault") [(r 39)] [(r 52),(r 39),(.U0 "Exception"),(.U0 "BaseException"),(.U0 "object")] 51 (s "NameFault") [] [(E0 (r 43)),H0,(E0 (v "NameFault" 228)),(E0 (v "NameFault" 236)),(E0 (.Z4 "Exception.__new__")),(E0 (.N3 I0))]),(53,oS 52),(54,bI 52),(55,oT [(r 39)]),(56,bP),(57,oM 4 (dl P [("__module__",251,m1),("__qualname__",253,(v "TypeFault" 252)),("__firstlineno__",255,(.j0 13 254)),("__static_attributes__",256,(r 62))])),(58,eT),(59,eF),(60,co "TypeFault" "TypeFault" 246 13 0 0 58 R0 59 .H0 .H0 .H0 249),(61,oR 60 57 m1),(62,eT),(63,oM 2 (dl P [("__module__",251,m1),("__firstlineno__",255,(.j0 13 254)),("__static_attributes__",256,(r 62)),("__doc__",257,.H0)])),(64,oK (s "TypeFault") [(r 39)] [(r 64),(r 39),(.U0 "Exception"),(.U0 "BaseException"),(.U0 "object")] 63 (s "TypeFault") [] [(E0 (r 55)),H0,(E0 (v "TypeFault" 244)),(E0 (v "TypeFault" 252)),(E0 (.Z4 "Exception.__new__")),(E0 (.N3 I0))]),(65,oS 64),(66,bI 64)]]
def t3(P:KF):BT:=XF (t2 P) [[(3,oM 21 (dl P (("__name__",165,m3)::d2))),(12,oJ g2),(39,oK (s "LendError") [(.U0 "Exception")] [(r 39),(.U0 "Exception"),(.U0 "BaseException"),(.U0 "object")] 38 (s "LendError") [(r 52),(r 64),(r 76)] [(E0 (r 22)),H0,(E0 (v "LendError" 196)),(E0 (v "LendError" 204)),(E0 (.Z4 "Exception.__new__")),(E0 (.N3 I0))]),(67,oT [(r 39)]),(68,bP),(69,oM 4 (dl P [("__module__",267,m1),("__qualname__",269,(v "TraitFault" 268)),("__firstlineno__",271,(.j0 15 270)),("__static_attributes__",272,(r 74))])),(70,eT),(71,eF),(72,co "TraitFault" "TraitFault" 262 15 0 0 70 R0 71 .H0 .H0 .H0 265),(73,oR 72 69 m1),(74,eT),(75,oM 2 (dl P [("__module__",267,m1),("__firstlineno__",271,(.j0 15 270)),("__static_attributes__",272,(r 74)),("__doc__",273,.H0)])),(76,oK (s "TraitFault") [(r 39)] [(r 76),(r 39),(.U0 "Exception"),(.U0 "BaseException"),(.U0 "object")] 75 (s "TraitFault") [] [(E0 (r 67)),H0,(E0 (v "TraitFault" 260)),(E0 (v "TraitFault" 268)),(E0 (.Z4 "Exception.__new__")),(E0 (.N3 I0))]),(77,oS 76),(78,bI 76)],fg 79 18 2 278 7 "head_pairs" ["one","other","kind","alike"] m2,fg 86 36 2 288 8 "could_be" ["one","other","answer","left","here","there","kinds","pairs"] m2,fg 93 56 4 302 9 "match_type" ["pattern","subject","names","found","answer","left","here","there","told","pairs"] m2,fg 100 77 4 318 10 "match_all" ["patterns","subjects","names","found","answer","pattern","subject","told"] m2,fg 107 89 1 336 13 "last_name" ["path"] m3,fg 114 91 1 343 14 "names_of" [] m3]
def t4(P:KF):BT:=XF (t3 P) [[(3,oM 25 (dl P (("__name__",165,m4)::d3))),(12,oJ g3)],fg 119 93 3 349 15 "matches_impl" ["impl","trait_args","T","found","patterns"] m3,fg 126 99 1 360 16 "is_plainly_copy" ["T"] m3,[(133,eT),(134,bP),(135,oM 9 (dl P [("__module__",374,m3),("__qualname__",376,(v "Selection" 375)),("__firstlineno__",378,(.j0 105 377)),("__init__",387,(r 146)),("bound_of",396,(r 153)),("needs_of",402,(r 158)),("candidates",420,(r 165)),("asked",426,(r 170)),("__static_attributes__",429,(r 171))])),(136,eT),(137,oF [(i 107),(i 4),(r 145),(i 111),(i 4),(r 152),(i 116),(i 4),(r 157),(i 123),(i 4),(r 164),(i 137),(i 4),(r 169)]),(138,co "Selection" "Selection" 369 105 0 0 136 R0 137 .H0 .H0 .H0 372),(139,oR 138 135 m3)],fG 140 107 3 379 (me 17 0) "__init__" "Selection.__init__" ["self","world","bounds"] m3 .H0,fG 147 111 3 388 (me 17 1) "bound_of" "Selection.bound_of" ["self","trait","T"] m3 .H0,fG 154 116 3 397 (me 17 2) "needs_of" "Selection.needs_of" [] m3 .H0,fG 159 123 5 403 (me 17 3) "candidates" "Selection.candidates" ["self","trait","args","T","deep","rows","impl","answer","found","other","part","told"] m3 .H0,fG 166 137 5 421 (me 17 4) "asked" "Selection.asked" [] m3 .H0,[(171,oV 427 ["bounds","world"]),(172,oM 4 (dl P [("__module__",374,m3),("__firstlineno__",378,(.j0 105 377)),("__init__",387,(r 146)),("bound_of",396,(r 153)),("needs_of",402,(r 158)),("candidates",420,(r 165)),("asked",426,(r 170)),("__static_attributes__",429,(r 171)),("__dict__",431,(r 174)),("__weakref__",433,(r 175)),("__doc__",434,.H0)])),(173,kO "Selection" 173 172 367 375),(174,gD 430 173),(175,gW 432 173),(176,oS 173),(177,bI 173),(178,eT),(179,oT [(v "tuple" 439),(r 178)])]]
def t5(P:KF):BT:=XF (t4 P) [[(3,oM 40 (dl P (("__name__",165,m5)::d4))),(12,oJ g4)],fg 180 154 1 441 20 "parts_of" ["told","kind"] m4,fg 187 163 2 449 21 "rebuilt" ["told","parts","kind"] m4,fg 194 174 2 458 22 "substituted" [] m4,fg 199 178 2 464 23 "with_regions" [] m4,fg 204 184 1 470 24 "no_region" ["region"] m4,fg 211 186 1 477 25 "erased" ["told"] m4,fg 218 188 1 484 26 "region_text" ["region"] m4,fg 225 192 1 491 27 "type_text" [] m4,fg 230 214 3 497 28 "field_rows" ["told","variant","world"] m4,fg 237 216 3 506 29 "fields_of" [] m4,[(242,oV 514 ["bool","i8","i16","i32","i64","u8","u16","u32","u64","usize"])],fg 243 230 1 525 32 "names_in_path" [] m5,fg 248 232 4 531 33 "given_types" ["checker","params","told","spot","found","place"] m5,fg 255 239 4 543 34 "owe_bounds" ["checker","params","given","spot","name","traits","trait"] m5,fg 262 243 1 556 35 "check_owed" [] m5]
def t6(P:KF):BT:=XF (t5 P) [[(3,oM 48 (dl P (("__name__",165,m5)::d5))),(12,oJ g5)],fg 267 249 3 562 36 "type_ahead" ["checker","s","spath","ahead","first","path"] m5,[(274,eT),(275,bP),(276,oM 5 (dl P [("__module__",581,m5),("__qualname__",583,(v "Callee" 582)),("__firstlineno__",585,(.j0 265 584)),("__init__",595,(r 287)),("__static_attributes__",599,(r 288))])),(277,eT),(278,oF [(i 267),(i 4),(r 286)]),(279,co "Callee" "Callee" 576 265 0 0 277 R0 278 .H0 .H0 .H0 579),(280,oR 279 276 m5)],fG 281 267 4 586 (me 37 0) "__init__" "Callee.__init__" ["self","fnref","inputs","output"] m5 .H0,[(288,oV 596 ["fnref","inputs","output"]),(289,oM 4 (dl P [("__module__",581,m5),("__firstlineno__",585,(.j0 265 584)),("__init__",595,(r 287)),("__static_attributes__",599,(r 288)),("__dict__",601,(r 291)),("__weakref__",603,(r 292)),("__doc__",604,.H0)])),(290,kO "Callee" 290 289 574 582),(291,gD 600 290),(292,gW 602 290),(293,oS 290),(294,bI 290)],fg 295 271 4 607 38 "callee_of" [] m5,fg 300 274 4 613 39 "plain_callee" [] m5,fg 305 279 6 619 40 "impl_callee" [] m5,fg 310 288 5 625 41 "settle_args" [] m5,fg 315 300 6 631 42 "trait_callee" [] m5,fg 320 313 3 637 43 "impls_with" ["checker","T","name","found","impl"] m5]
def t7(P:KF):BT:=XF (t6 P) [[(3,oM 56 (dl P (("__name__",165,m6)::d6))),(12,oJ g6)],fg 327 319 3 648 44 "traits_with" ["checker","T","name","selection","found","path"] m5,fg 334 326 5 660 45 "callee_within" ["checker","T","name","told","spot","impls","traits"] m5,fg 341 337 3 673 46 "callee_at" ["checker","s","spath","name","regions","told","ahead","path"] m5,fg 348 350 4 687 47 "read_arguments" [] m5,fg 353 354 3 693 48 "form_of" ["checker","path","number"] m5,fg 360 356 4 702 49 "read_variant" [] m5,fg 365 363 4 708 50 "read_box" ["checker","s","es","wanted","inner","made"] m5,fg 372 369 3 720 51 "check_call" ["checker","node","expected","kind","s","f","es","spath","named","callee"] m5]
def t8(P:KF):BT:=XF (t7 P) [[(3,oM 57 (dl P (("__name__",165,m6)::d7))),(12,oJ g7),(379,eT),(380,bP),(381,oM 14 (dl P [("__module__",745,m6),("__qualname__",747,(v "Infer" 746)),("__firstlineno__",749,(.j0 382 748)),("__init__",756,(r 392)),("fresh",763,(r 399)),("fresh_int",770,(r 406)),("shallow",778,(r 413)),("resolved",784,(r 418)),("occurs",795,(r 425)),("bind",804,(r 432)),("are_alike",813,(r 439)),("unify",826,(r 446)),("default_ints",833,(r 453)),("__static_attributes__",836,(r 454))])),(382,eT),(383,oF [(i 384),(i 4),(r 391),(i 388),(i 4),(r 398),(i 393),(i 4),(r 405),(i 396),(i 4),(r 412),(i 401),(i 4),(r 417),(i 405),(i 4),(r 424),(i 414),(i 4),(r 431),(i 424),(i 4),(r 438),(i 431),(i 4),(r 445),(i 448),(i 4),(r 452)]),(384,co "Infer" "Infer" 740 382 0 0 382 R0 383 .H0 .H0 .H0 743),(385,oR 384 381 m6)],fG 386 384 1 750 (me 53 0) "__init__" "Infer.__init__" ["self"] m6 .H0,fG 393 388 1 757 (me 53 1) "fresh" "Infer.fresh" ["self"] m6 .H0,fG 400 393 1 764 (me 53 2) "fresh_int" "Infer.fresh_int" ["self"] m6 .H0,fG 407 396 2 771 (me 53 3) "shallow" "Infer.shallow" ["self","told"] m6 .H0,fG 414 401 2 779 (me 53 4) "resolved" "Infer.resolved" [] m6 .H0,fG 419 405 3 785 (me 53 5) "occurs" "Infer.occurs" ["self","unknown","told","left","here"] m6 .H0,fG 426 414 3 796 (me 53 6) "bind" "Infer.bind" ["self","unknown","told"] m6 .H0,fG 433 424 3 805 (me 53 7) "are_alike" "Infer.are_alike" ["self","one","other"] m6 .H0,fG 440 431 3 814 (me 53 8) "unify" "Infer.unify" ["self","one","other","left","here","there","told"] m6 .H0,fG 447 448 1 827 (me 53 9) "default_ints" "Infer.default_ints" ["self"] m6 .H0,[(454,oV 834 ["is_number","known"]),(455,oM 4 (dl P [("__module__",745,m6),("__firstlineno__",749,(.j0 382 748)),("__init__",756,(r 392)),("fresh",763,(r 399)),("fresh_int",770,(r 406)),("shallow",778,(r 413)),("resolved",784,(r 418)),("occurs",795,(r 425)),("bind",804,(r 432)),("are_alike",813,(r 439)),("unify",826,(r 446)),("default_ints",833,(r 453)),("__static_attributes__",836,(r 454)),("__dict__",838,(r 457)),("__weakref__",840,(r 458)),("__doc__",841,.H0)])),(456,kO "Infer" 456 455 738 746),(457,gD 837 456),(458,gW 839 456),(459,oS 456),(460,bI 456)]]
def t9(P:KF):BT:=XF (t8 P) [[(3,oM 59 (dl P (("__name__",165,m7)::d8))),(12,oJ g8),(461,oV 846 ["i8","i16","i32","i64","u8","u16","u32","u64","usize"]),(462,eT),(463,bP),(464,oM 11 (dl P [("__module__",863,m7),("__qualname__",865,(v "Reader" 864)),("__firstlineno__",867,(.j0 452 866)),("__init__",879,(r 475)),("read",885,(r 480)),("unknown",892,(r 487)),("path",898,(r 492)),("single",910,(r 499)),("bare",920,(r 506)),("named",926,(r 511)),("__static_attributes__",932,(r 512))])),(465,eT),(466,oF [(i 454),(i 4),(r 474),(i 461),(i 4),(r 479),(i 475),(i 4),(r 486),(i 478),(i 4),(r 491),(i 489),(i 4),(r 498),(i 505),(i 4),(r 505),(i 510),(i 4),(r 510)]),(467,co "Reader" "Reader" 858 452 0 0 465 R0 466 .H0 .H0 .H0 861),(468,oR 467 464 m7)],fG 469 454 6 868 (me 56 0) "__init__" "Reader.__init__" ["self","modules","module","generics","self_type","fresh"] m7 .H0,fG 476 461 2 880 (me 56 1) "read" "Reader.read" [] m7 .H0,fG 481 475 1 886 (me 56 2) "unknown" "Reader.unknown" ["self"] m7 .H0,fG 488 478 3 893 (me 56 3) "path" "Reader.path" [] m7 .H0,fG 493 489 3 899 (me 56 4) "single" "Reader.single" ["self","spot","row","name","regions","types"] m7 .H0,fG 500 505 4 911 (me 56 5) "bare" "Reader.bare" ["self","spot","row","told"] m7 .H0,fG 507 510 4 921 (me 56 6) "named" "Reader.named" [] m7 .H0,[(512,oV 927 ["fresh","generics","module","modules","self_type"]),(513,oM 4 (dl P [("__module__",863,m7),("__firstlineno__",867,(.j0 452 866)),("__init__",879,(r 475)),("read",885,(r 480)),("unknown",892,(r 487)),("path",898,(r 492)),("single",910,(r 499)),("bare",920,(r 506)),("named",926,(r 511)),("__static_attributes__",932,(r 512)),("__dict__",934,(r 515)),("__weakref__",936,(r 516)),("__doc__",937,.H0)])),(514,kO "Reader" 514 513 856 864),(515,gD 933 514),(516,gW 935 514),(517,oS 514),(518,bI 514)]]
def jo(P:KF):BT:=XF (t9 P) [[(3,oM 61 (dl P (("__name__",165,m8)::d9))),(12,oJ g9),(519,oT [.H0])],fG 520 523 6 940 (st 57) "type_of" "type_of" ["modules","module","generics","self_type","written","fresh"] m7 (r 519)]
def qo(P:KF):BT:=XF (jo P) [[(3,oM 62 (dl P (("__name__",165,m8)::d10))),(12,oJ g10),(527,eT),(528,bP),(529,oM 27 (dl P [("__module__",963,m8),("__qualname__",965,(v "Checker" 964)),("__firstlineno__",967,(.j0 527 966)),("__init__",979,(r 540)),("expr",988,(r 547)),("fault",997,(r 554)),("fresh",1004,(r 561)),("resolved",1012,(r 568)),("unify",1023,(r 575)),("typex",1032,(r 582)),("open",1039,(r 589)),("close",1046,(r 596)),("new_local",1056,(r 603)),("declare",1067,(r 610)),("local",1076,(r 617)),("adt_type",1082,(r 622)),("variant_of",1091,(r 629)),("types_told",1101,(r 636)),("value_path",1117,(r 643)),("own_path",1123,(r 648)),("variant_path",1132,(r 655)),("own_variant",1141,(r 662)),("enter",1151,(r 669)),("loop_of",1160,(r 676)),("coerce",1171,(r 683)),("made_anew",1185,(r 690)),("__static_attributes__",1198,(r 691))])),(530,eT),(531,oF [(i 529),(i 4),(r 539),(i 543),(i 4),(r 546),(i 546),(i 4),(r 553),(i 549),(i 4),(r 560),(i 552),(i 4),(r 567),(i 555),(i 4),(r 574),(i 561),(i 4),(r 581),(i 565),(i 4),(r 588),(i 568),(i 4),(r 595),(i 571),(i 4),(r 602),(i 574),(i 4),(r 609),(i 577),(i 4),(r 616),(i 583),(i 4),(r 621),(i 592),(i 4),(r 628),(i 595),(i 4),(r 635),(i 601),(i 4),(r 642),(i 617),(i 4),(r 647),(i 629),(i 4),(r 654),(i 632),(i 4),(r 661),(i 635),(i 4),(r 668),(i 638),(i 4),(r 675),(i 641),(i 4),(r 682),(i 650),(i 4),(r 689)]),(532,co "Checker" "Checker" 958 527 0 0 530 R0 531 .H0 .H0 .H0 961),(533,oR 532 529 m8)],fG 534 529 6 968 (me 60 0) "__init__" "Checker.__init__" ["self","world","module","self_type","bounds","reader"] m8 .H0,fG 541 543 3 980 (me 60 1) "expr" "Checker.expr" ["self","node","wanted"] m8 .H0,fG 548 546 3 989 (me 60 2) "fault" "Checker.fault" ["self","message","spot"] m8 .H0,fG 555 549 1 998 (me 60 3) "fresh" "Checker.fresh" ["self"] m8 .H0,fG 562 552 2 1005 (me 60 4) "resolved" "Checker.resolved" ["self","told"] m8 .H0,fG 569 555 4 1013 (me 60 5) "unify" "Checker.unify" ["self","one","other","spot","found"] m8 .H0,fG 576 561 2 1024 (me 60 6) "typex" "Checker.typex" ["self","written","names"] m8 .H0,fG 583 565 1 1033 (me 60 7) "open" "Checker.open" ["self"] m8 .H0,fG 590 568 1 1040 (me 60 8) "close" "Checker.close" ["self"] m8 .H0,fG 597 571 4 1047 (me 60 9) "new_local" "Checker.new_local" ["self","name","told","is_mut"] m8 .H0,fG 604 574 5 1057 (me 60 10) "declare" "Checker.declare" ["self","name","told","is_mut","spot"] m8 .H0,fG 611 577 2 1068 (me 60 11) "local" "Checker.local" ["self","name","scope"] m8 .H0,fG 618 583 3 1077 (me 60 12) "adt_type" "Checker.adt_type" [] m8 .H0,fG 623 592 3 1083 (me 60 13) "variant_of" "Checker.variant_of" ["self","spot","spath"] m8 .H0,fG 630 595 3 1092 (me 60 14) "types_told" "Checker.types_told" ["self","owner","spath","told"] m8 .H0,fG 637 601 3 1102 (me 60 15) "value_path" "Checker.value_path" ["self","spath","spot","path","owner","number","kind","told","made","module"] m8 .H0,fG 644 617 3 1118 (me 60 16) "own_path" "Checker.own_path" [] m8 .H0,fG 649 629 3 1124 (me 60 17) "variant_path" "Checker.variant_path" ["self","spot","names"] m8 .H0,fG 656 632 3 1133 (me 60 18) "own_variant" "Checker.own_variant" ["self","spot","spath"] m8 .H0,fG 663 635 4 1142 (me 60 19) "enter" "Checker.enter" ["self","label","result","has_value"] m8 .H0,fG 670 638 3 1152 (me 60 20) "loop_of" "Checker.loop_of" ["self","label","spot"] m8 .H0,fG 677 641 3 1161 (me 60 21) "coerce" "Checker.coerce" ["self","made","told","here","wanted"] m8 .H0,fG 684 650 4 1172 (me 60 22) "made_anew" "Checker.made_anew" ["self","made","here","wanted","spot","inner","led","goal"] m8 .H0,[(691,oV 1186 ["bounds","infer","locals","loops","many_loops","module","owed","reader","result","scopes","self_type","world"]),(692,oM 4 (dl P [("__module__",963,m8),("__firstlineno__",967,(.j0 527 966)),("__init__",979,(r 540)),("expr",988,(r 547)),("fault",997,(r 554)),("fresh",1004,(r 561)),("resolved",1012,(r 568)),("unify",1023,(r 575)),("typex",1032,(r 582)),("open",1039,(r 589)),("close",1046,(r 596)),("new_local",1056,(r 603)),("declare",1067,(r 610)),("local",1076,(r 617)),("adt_type",1082,(r 622)),("variant_of",1091,(r 629)),("types_told",1101,(r 636)),("value_path",1117,(r 643)),("own_path",1123,(r 648)),("variant_path",1132,(r 655)),("own_variant",1141,(r 662)),("enter",1151,(r 669)),("loop_of",1160,(r 676)),("coerce",1171,(r 683)),("made_anew",1185,(r 690)),("__static_attributes__",1198,(r 691)),("__dict__",1200,(r 694)),("__weakref__",1202,(r 695)),("__doc__",1203,.H0)])),(693,kO "Checker" 693 692 956 964),(694,gD 1199 693),(695,gW 1201 693),(696,oS 693),(697,bI 693)]]
def uo(P:KF):BT:=XF (qo P) [[(3,oM 66 (dl P (("__name__",165,m9)::d11))),(12,oJ g11)],fg 698 660 1 1206 61 "names_in" [] m8,fg 703 662 1 1212 62 "plain_value" ["made"] m8,fg 710 668 1 1219 63 "is_held" ["made"] m8,[(717,eT),(718,bP),(719,oM 5 (dl P [("__module__",1235,m9),("__qualname__",1237,(v "Adt" 1236)),("__firstlineno__",1239,(.j0 673 1238)),("__init__",1254,(r 732)),("__static_attributes__",1262,(r 733))])),(720,eT),(721,oF [(i 675),(i 4),(r 731)]),(722,co "Adt" "Adt" 1230 673 0 0 720 R0 721 .H0 .H0 .H0 1233),(723,oR 722 719 m9),(724,eT),(725,oT [(v "" 1240),(r 724)])],fG 726 675 8 1241 (me 65 0) "__init__" "Adt.__init__" ["self","path","regions","params","variants","is_enum","module","publics"] m9 (r 725),[(733,oV 1255 ["is_enum","module","params","path","publics","regions","variants"]),(734,oM 4 (dl P [("__module__",1235,m9),("__firstlineno__",1239,(.j0 673 1238)),("__init__",1254,(r 732)),("__static_attributes__",1262,(r 733)),("__dict__",1264,(r 736)),("__weakref__",1266,(r 737)),("__doc__",1267,.H0)])),(735,kO "Adt" 735 734 1228 1236),(736,gD 1263 735),(737,gW 1265 735),(738,oS 735),(739,bI 735)]]
def vo(P:KF):BT:=XF (uo P) [[(3,oM 67 (dl P (("__name__",165,m9)::d12))),(12,oJ g12),(740,eT),(741,bP),(742,oM 5 (dl P [("__module__",1277,m9),("__qualname__",1279,(v "Sig" 1278)),("__firstlineno__",1281,(.j0 683 1280)),("__init__",1296,(r 753)),("__static_attributes__",1305,(r 754))])),(743,eT),(744,oF [(i 685),(i 4),(r 752)]),(745,co "Sig" "Sig" 1272 683 0 0 743 R0 744 .H0 .H0 .H0 1275),(746,oR 745 742 m9)],fG 747 685 9 1282 (me 66 0) "__init__" "Sig.__init__" ["self","path","regions","params","own","inputs","output","self_kind","has_body"] m9 .H0,[(754,oV 1297 ["has_body","inputs","output","own","params","path","regions","self_kind"]),(755,oM 4 (dl P [("__module__",1277,m9),("__firstlineno__",1281,(.j0 683 1280)),("__init__",1296,(r 753)),("__static_attributes__",1305,(r 754)),("__dict__",1307,(r 757)),("__weakref__",1309,(r 758)),("__doc__",1310,.H0)])),(756,kO "Sig" 756 755 1270 1278),(757,gD 1306 756),(758,gW 1308 756),(759,oS 756),(760,bI 756)]]
def wo(P:KF):BT:=XF (vo P) [[(3,oM 68 (dl P (("__name__",165,m9)::d13))),(12,oJ g13),(761,eT),(762,bP),(763,oM 5 (dl P [("__module__",1320,m9),("__qualname__",1322,(v "TraitRow" 1321)),("__firstlineno__",1324,(.j0 694 1323)),("__init__",1335,(r 774)),("__static_attributes__",1340,(r 775))])),(764,eT),(765,oF [(i 696),(i 4),(r 773)]),(766,co "TraitRow" "TraitRow" 1315 694 0 0 764 R0 765 .H0 .H0 .H0 1318),(767,oR 766 763 m9)],fG 768 696 5 1325 (me 67 0) "__init__" "TraitRow.__init__" ["self","path","params","methods","defaults"] m9 .H0,[(775,oV 1336 ["defaults","methods","params","path"]),(776,oM 4 (dl P [("__module__",1320,m9),("__firstlineno__",1324,(.j0 694 1323)),("__init__",1335,(r 774)),("__static_attributes__",1340,(r 775)),("__dict__",1342,(r 778)),("__weakref__",1344,(r 779)),("__doc__",1345,.H0)])),(777,kO "TraitRow" 777 776 1313 1321),(778,gD 1341 777),(779,gW 1343 777),(780,oS 777),(781,bI 777)]]
def xo(P:KF):BT:=XF (wo P) [[(3,oM 69 (dl P (("__name__",165,m9)::d14))),(12,oJ g14),(782,eT),(783,bP),(784,oM 5 (dl P [("__module__",1355,m9),("__qualname__",1357,(v "ImplRow" 1356)),("__firstlineno__",1359,(.j0 701 1358)),("__init__",1375,(r 796)),("__static_attributes__",1384,(r 797))])),(785,eT),(786,oF [(i 703),(i 4),(r 795)]),(787,co "ImplRow" "ImplRow" 1350 701 0 0 785 R0 786 .H0 .H0 .H0 1353),(788,oR 787 784 m9),(789,oT [(.j0 0 1360)])],fG 790 703 9 1361 (me 68 0) "__init__" "ImplRow.__init__" ["self","number","regions","params","trait","trait_args","self_type","methods","spot"] m9 (r 789),[(797,oV 1376 ["methods","number","params","regions","self_type","spot","trait","trait_args"]),(798,oM 4 (dl P [("__module__",1355,m9),("__firstlineno__",1359,(.j0 701 1358)),("__init__",1375,(r 796)),("__static_attributes__",1384,(r 797)),("__dict__",1386,(r 800)),("__weakref__",1388,(r 801)),("__doc__",1389,.H0)])),(799,kO "ImplRow" 799 798 1348 1356),(800,gD 1385 799),(801,gW 1387 799),(802,oS 799),(803,bI 799)]]
def yo(P:KF):BT:=XF (xo P) [[(3,oM 77 (dl P (("__name__",165,lE)::d15))),(12,oJ g15),(804,eT),(805,bP),(806,oM 6 (dl P [("__module__",1399,m9),("__qualname__",1401,(v "World" 1400)),("__firstlineno__",1403,(.j0 712 1402)),("__init__",1411,(r 818)),("is_field_seen",1422,(r 825)),("__static_attributes__",1431,(r 826))])),(807,eT),(808,oF [(i 714),(i 4),(r 817),(i 724),(i 4),(r 824)]),(809,co "World" "World" 1394 712 0 0 807 R0 808 .H0 .H0 .H0 1397),(810,oR 809 806 m9),(811,oT [.H0])],fG 812 714 2 1404 (me 69 0) "__init__" "World.__init__" ["self","modules"] m9 (r 811),fG 819 724 5 1412 (me 69 1) "is_field_seen" "World.is_field_seen" ["self","path","number","k","module"] m9 .H0,[(826,oV 1423 ["adts","bodies","consts","impls","modules","sigs","traits","variants"]),(827,oM 4 (dl P [("__module__",1399,m9),("__firstlineno__",1403,(.j0 712 1402)),("__init__",1411,(r 818)),("is_field_seen",1422,(r 825)),("__static_attributes__",1431,(r 826)),("__dict__",1433,(r 829)),("__weakref__",1435,(r 830)),("__doc__",1436,.H0)])),(828,kO "World" 828 827 1392 1400),(829,gD 1432 828),(830,gW 1434 828),(831,oS 828),(832,bI 828)],fg 833 727 2 1441 71 "_law_pool" ["script","k","cell","big","mixed"] lE,fg 840 732 2 1452 72 "_law_take" ["source","top","drawn"] lE,fg 847 739 2 1461 73 "_law_one" ["source","things"] lE,[(854,oV 1469 ["int","u8"]),(855,oV 1472 ["param","T"]),(856,oV 1475 ["param","U"]),(857,oT [(.j0 0 1478)])],fG 858 744 4 1479 (st 77) "_law_find" "_law_find" ["module","names","space","spot","path"] lE (r 857)]
def oX(P:KF):BT:=XF (yo P) [[(3,oM 90 (dl P (("__name__",165,lE)::d16))),(12,oJ g16)],fg 865 749 0 1490 78 "_law_world" ["world","pair","own","few","both","path","whole","one"] lE,fg 872 769 0 1504 79 "_law_checker" ["reader"] lE,fg 879 773 0 1511 80 "_law_rows" ["pair","own","make","go"] lE,fg 886 778 3 1521 81 "_law_fit" ["pattern","told","table"] lE,fg 893 784 2 1530 82 "_law_put" [] lE,fg 898 792 2 1536 83 "_law_closed" ["source","deep","way"] lE,fg 905 797 1 1545 84 "_law_written" ["T"] lE,fg 912 803 1 1552 85 "_law_has" ["T"] lE,fg 919 805 3 1559 86 "_law_due" [] lE,fg 924 817 3 1565 87 "_law_told" [] lE,fg 929 844 2 1571 88 "_law_call_right" [] lE,fg 934 869 0 1577 89 "_law_refused_right" [] lE,fg 939 877 1 1583 90 "law" [] lE]
def bA:o6:={Z8:=c80.Z8,Wp:=mainNs,YE:=mainNs,rT:=[],YA:=.J0 13,DD:=E0 14}
def K7:Code:=.O4 (ms pw) bA
noncomputable abbrev z0:Q3:=⟨0,0,0,0⟩
def sl(a n:C0):P0 U5:=(pb.SG a).vL n
noncomputable abbrev WB:=wE.tw14364793385576792824
noncomputable abbrev RF:=@wE.tw10110043849684766642
noncomputable abbrev DB:Q1 K0:=E0 (.J0 6)
theorem p0(w:M4):(λ os=>RF WB pw w 11 DB 1 271 ⟨t0 O5,15,{},#[],{},187,os⟩ (nF (sl 0 3) bA K7 ⟨0,0,0,0⟩ [AD z0]))=
  λ os=>E0 (.W4,⟨t1 O5,43,{},#[],{},228,os⟩,K7,⟨5,0,10,24⟩):=by kernel_rfl
theorem p1(w:M4):(λ os=>RF WB pw w 11 DB 1 427 ⟨t1 O5,43,{},#[],{},228,os⟩ (nF (sl 3 2) bA K7 ⟨5,0,10,24⟩ [AD z0]))=
  λ os=>E0 (.W4,⟨t2 O5,67,{},#[],{},260,os⟩,K7,⟨13,0,14,8⟩):=by kernel_rfl
theorem p2(w:M4):(λ os=>RF WB pw w 11 DB 1 438 ⟨t2 O5,67,{},#[],{},260,os⟩ (nF (sl 5 10) bA K7 ⟨13,0,14,8⟩ [AD z0]))=
  λ os=>E0 (.W4,⟨t3 O5,119,{},#[],{},349,os⟩,K7,⟨91,0,92,49⟩):=by kernel_rfl
theorem p3(w:M4):(λ os=>RF WB pw w 11 DB 1 440 ⟨t3 O5,119,{},#[],{},349,os⟩ (nF (sl 15 5) bA K7 ⟨91,0,92,49⟩ [AD z0]))=
  λ os=>E0 (.W4,⟨t4 O5,180,{},#[],{},441,os⟩,K7,⟨153,0,153,4⟩):=by kernel_rfl
theorem p4(w:M4):(λ os=>RF WB pw w 11 DB 1 434 ⟨t4 O5,180,{},#[],{},441,os⟩ (nF (sl 20 16) bA K7 ⟨153,0,153,4⟩ [AD z0]))=
  λ os=>E0 (.W4,⟨t5 O5,267,{},#[],{},562,os⟩,K7,⟨243,0,248,60⟩):=by kernel_rfl
theorem p5(w:M4):(λ os=>RF WB pw w 11 DB 1 424 ⟨t5 O5,267,{},#[],{},562,os⟩ (nF (sl 36 8) bA K7 ⟨243,0,248,60⟩ [AD z0]))=
  λ os=>E0 (.W4,⟨t6 O5,327,{},#[],{},648,os⟩,K7,⟨313,0,318,16⟩):=by kernel_rfl
theorem p6(w:M4):(λ os=>RF WB pw w 11 DB 1 270 ⟨t6 O5,327,{},#[],{},648,os⟩ (nF (sl 44 9) bA K7 ⟨313,0,318,16⟩ [AD z0]))=
  λ os=>E0 (.W4,⟨t7 O5,379,{},#[],{},738,os⟩,K7,⟨381,0,381,8⟩):=by kernel_rfl
theorem p7(w:M4):(λ os=>RF WB pw w 11 DB 1 514 ⟨t7 O5,379,{},#[],{},738,os⟩ (nF (sl 53 1) bA K7 ⟨381,0,381,8⟩ [AD z0]))=
  λ os=>E0 (.W4,⟨t8 O5,461,{},#[],{},844,os⟩,K7,⟨382,0,449,16⟩):=by kernel_rfl
theorem p8(w:M4):(λ os=>RF WB pw w 11 DB 1 444 ⟨t8 O5,461,{},#[],{},844,os⟩ (nF (sl 54 3) bA K7 ⟨382,0,449,16⟩ [AD z0]))=
  λ os=>E0 (.W4,⟨t9 O5,519,{},#[],{},940,os⟩,K7,⟨452,0,522,78⟩):=by kernel_rfl
theorem p9(w:M4):(λ os=>RF WB pw w 11 DB 1 54 ⟨t9 O5,519,{},#[],{},940,os⟩ (nF (sl 57 3) bA K7 ⟨452,0,522,78⟩ [AD z0]))=
  λ os=>E0 (.W4,⟨jo O5,527,{},#[],{},956,os⟩,K7,⟨526,0,526,4⟩):=by kernel_rfl
theorem p10(w:M4):(λ os=>RF WB pw w 11 DB 1 968 ⟨jo O5,527,{},#[],{},956,os⟩ (nF (sl 60 1) bA K7 ⟨526,0,526,4⟩ [AD z0]))=
  λ os=>E0 (.W4,⟨qo O5,698,{},#[],{},1206,os⟩,K7,⟨527,0,659,103⟩):=by kernel_rfl
theorem p11(w:M4):(λ os=>RF WB pw w 11 DB 1 332 ⟨qo O5,698,{},#[],{},1206,os⟩ (nF (sl 61 5) bA K7 ⟨527,0,659,103⟩ [AD z0]))=
  λ os=>E0 (.W4,⟨uo O5,740,{},#[],{},1270,os⟩,K7,⟨673,0,682,30⟩):=by kernel_rfl
theorem p12(w:M4):(λ os=>RF WB pw w 11 DB 1 237 ⟨uo O5,740,{},#[],{},1270,os⟩ (nF (sl 66 1) bA K7 ⟨673,0,682,30⟩ [AD z0]))=
  λ os=>E0 (.W4,⟨vo O5,761,{},#[],{},1313,os⟩,K7,⟨683,0,693,32⟩):=by kernel_rfl
theorem p13(w:M4):(λ os=>RF WB pw w 11 DB 1 229 ⟨vo O5,761,{},#[],{},1313,os⟩ (nF (sl 67 1) bA K7 ⟨683,0,693,32⟩ [AD z0]))=
  λ os=>E0 (.W4,⟨wo O5,782,{},#[],{},1348,os⟩,K7,⟨694,0,700,32⟩):=by kernel_rfl
theorem p14(w:M4):(λ os=>RF WB pw w 11 DB 1 239 ⟨wo O5,782,{},#[],{},1348,os⟩ (nF (sl 68 1) bA K7 ⟨694,0,700,32⟩ [AD z0]))=
  λ os=>E0 (.W4,⟨xo O5,804,{},#[],{},1392,os⟩,K7,⟨701,0,711,24⟩):=by kernel_rfl
theorem p15(w:M4):(λ os=>RF WB pw w 11 DB 1 440 ⟨xo O5,804,{},#[],{},1392,os⟩ (nF (sl 69 9) bA K7 ⟨701,0,711,24⟩ [AD z0]))=
  λ os=>E0 (.W4,⟨yo O5,865,{},#[],{},1490,os⟩,K7,⟨744,0,748,15⟩):=by kernel_rfl
theorem p16(w:M4):(λ os=>RF WB pw w 11 DB 1 374 ⟨yo O5,865,{},#[],{},1490,os⟩ (nF (sl 78 13) bA K7 ⟨744,0,748,15⟩ [AD z0]))=
  λ os=>E0 (.W4,⟨oX O5,944,{},#[],{},1589,os⟩,K7,⟨877,0,887,31⟩):=by kernel_rfl
theorem GO(w:M4):(λ os=>wE.tw15667345088766844465 WB pw w 11 DB 12 ⟨MP O5,#[],aw,ww,os⟩ (IA0 pw))=
  λ os=>E0 (⟨aN (t0 O5) 15 {},#[],{},187,os⟩,⟨wE.tw11892475500146522536 WB K7,K7,z0,[AD z0]⟩):=by kernel_rfl
theorem blk(w:M4):(λ os=>wE.tw14374325043358763698 WB pw w 11 DB 1 1 ⟨aN (t0 O5) 15 {},#[],{},187,os⟩ (blockOf (ms pw) bA K7 z0 [AD z0]))=
  λ os=>E0 (.W4,⟨aN (t0 O5) 15 {},#[],{},187,os⟩,K7,z0):=by kernel_rfl
theorem N6(w:M4):(λ os=>wE.MS0 WB pw w 11 DB 2 ⟨aN (oX O5) 944 {},#[],{},1589,os⟩ ⟨doneF .W4,K7,⟨877,0,887,31⟩,[AD z0]⟩)=
  λ os=>E0 ⟨aN (oX O5) 944 {},#[],{},1589,os⟩:=by kernel_rfl
theorem WB0:ms pw=sl 0 3++(sl 3 2++(sl 5 10++(sl 15 5++(sl 20 16++(sl 36 8++(sl 44 9++(sl 53 1++(sl 54 3++(sl 57 3++(sl 60 1++(sl 61 5++(sl 66 1++(sl 67 1++(sl 68 1++(sl 69 9++(sl 78 13++([]))))))))))))))))):=by kernel_rfl
theorem sg{w:M4}{n n₁ n₂ k₁ k₂:C0}{T₁ T₂:BT}{l:P0 U5}{a b:Q3}
  (h:(λ os=>RF WB pw w 11 DB 1 n ⟨T₁,n₁,{},#[],{},k₁,os⟩ (nF l bA K7 a [AD z0]))=λ os=>E0 (.W4,⟨T₂,n₂,{},#[],{},k₂,os⟩,K7,b))(os:Hm):
  segRun pZ pw w 11 DB 1 n ⟨aN T₁ n₁ {},#[],{},k₁,os⟩ (nF l bA K7 a [AD z0])=E0 (.W4,⟨aN T₂ n₂ {},#[],{},k₂,os⟩,K7,b):=by
 have h':=yl h os;dsimp only[RF,WB]at h';rw[<-wE.te10110043849684766642,<-ip]at h';exact segRun_of h'
theorem tr{w:M4}{n:C0}{s s':Hm->D1}{t:Thread}(h:(λ os=>wE.MS0 WB pw w 11 DB n (s os) t)=λ os=>E0 (s' os))(os:Hm):
  topRun pZ pw w 11 DB n (s os) t=E0 (s' os):=by
 have h':=yl h os;dsimp only[WB]at h';rw[<-wE.te14082659384304107361,<-ip]at h';exact h'
theorem jD(w:M4)(os:Hm):topRun pZ pw w 11 DB 6550 ⟨MP O5,#[],aw,ww,os⟩ (IA0 pw)=E0 ⟨aN (oX O5) 944 {},#[],{},1589,os⟩:=by
 have hp:topGo pZ pw w 11 DB 12 ⟨MP O5,#[],aw,ww,os⟩ (IA0 pw)=E0 (⟨aN (t0 O5) 15 {},#[],{},187,os⟩,⟨denote pZ K7,K7,z0,[AD z0]⟩):=by
  have h':=yl (GO w) os;dsimp only[WB]at h';rw[<-wE.te15667345088766844465,<-wE.te11892475500146522536,<-ip]at h';exact h'
 have hb:segRun pZ pw w 11 DB 1 1 ⟨aN (t0 O5) 15 {},#[],{},187,os⟩ (blockOf (ms pw) bA K7 z0 [AD z0])=E0 (.W4,⟨aN (t0 O5) 15 {},#[],{},187,os⟩,K7,z0):=by
  have h':=yl (blk w) os;dsimp only[WB]at h';rw[<-wE.te14374325043358763698,<-ip]at h';exact h'
 have hr:=(KH (sg (p0 w) os) (KH (sg (p1 w) os) (KH (sg (p2 w) os) (KH (sg (p3 w) os) (KH (sg (p4 w) os) (KH (sg (p5 w) os) (KH (sg (p6 w) os) (KH (sg (p7 w) os) (KH (sg (p8 w) os) (KH (sg (p9 w) os) (KH (sg (p10 w) os) (KH (sg (p11 w) os) (KH (sg (p12 w) os) (KH (sg (p13 w) os) (KH (sg (p14 w) os) (KH (sg (p15 w) os) (KH (sg (p16 w) os) (piece_nil (tr (N6 w) os)))))))))))))))))));rw[<-WB0]at hr;exact go_top hp (piece_block hb hr)
theorem open_:∀w:M4,(fencedOpening pZ pw w 20000).Y4 (λ s=>(W0,s.gens,s.drawn,X4))=E0 (MP O5,L4.mk [],aw,ww):=
 boot_open (p:=pw) (by kernel_rfl) (by decide) (λ s=>by kernel_rfl)
theorem XB0:∀w:M4,((MP O5).isNs HP&&(#[]:L4 GenState).L9==0,(MP O5).SC.L9,(MP O5).nsMap HP "__annotations__")=(I0,11,DB):=λ w=>by kernel_rfl
end
end Mine.Internal.H
end
section
open PySem PySem.W PyProof.Rows
set_option maxRecDepth 100000
set_option maxHeartbeats 0
namespace Mine.Internal.H
noncomputable section
def q:YN:={pw with main:={c80 with O4:=[st 90]}}
def eR:P0 C1:=pw.boundNames.Lm λ n=>!(n==DA "law")
noncomputable abbrev hf(P:KF):O1:=aN (oX P) 944 {}
theorem YB0:o80 vw=[]:=by kernel_rfl
theorem CQ(w:M4):HV0 [] (MP O5) (hf O5)=I0:=by kernel_rfl
theorem La(w:M4):oU0 pw (hf O5)=I0:=by kernel_rfl
theorem lk4(w:M4):dV0 (MP O5) (hf O5)=I0:=by kernel_rfl
theorem lk3(w:M4)(os:Hm):eV0 ⟨hf O5,#[],{},1589,os⟩=I0:=by kernel_rfl
theorem lk5(w:M4):(λ os=>wE.tw4187177175401517315 q eR [] (λ _=>I0) I0 ⟨hf O5,#[],{},1589,os⟩)=λ _=>fV0 q eR:=by kernel_rfl
theorem looks(w:M4):(λ os=>((HV0 (o80 vw) (MP O5) (hf O5)&&oU0 pw (hf O5)&&eV0 ⟨hf O5,#[],{},1589,os⟩&&dV0 (MP O5) (hf O5)),
    openSeen q eR (o80 vw) (λ _=>I0) I0 ⟨hf O5,#[],{},1589,os⟩,(λ s:D1=>W0) ⟨hf O5,#[],{},1589,os⟩))=λ _=>(I0,fV0 q eR,hf O5):=by
 funext os
 rw[YB0,CQ,La,lk3,lk4,wE.te4187177175401517315];exact DW0 O (DW0 (yl (lk5 w) os) O)
theorem e_:LeftO pw q eR (λ _=>I0) (λ s:D1=>W0) (λ w:M4=>hf O5) 20000:=
 LeftO.of_pieces (H₁:=λ P=>hf P) open_ XB0 jD (by decide) looks
end
end Mine.Internal.H
end
section
open PySem PySem.W PyProof.Rows
set_option maxRecDepth 100000
set_option maxHeartbeats 0
namespace Mine.Internal.H
noncomputable section
theorem ZB0:wE.QS0 A80=I0:=by
 delta wE.QS0 wE.tw17960256430627541270 wE.tw2436336058641802641 wE.tw12908688711261696721
 repeat' (with_reducible apply look_both)
 all_goals as_aux_lemma=>kernel_rfl
theorem said:A80.wellSaid=I0:=by
 rw[wE.te9446332074065402090];exact ZB0
end
end Mine.Internal.H
end
section
open PySem PySem.W PyProof.Rows
set_option maxRecDepth 100000
set_option maxHeartbeats 0
namespace Mine.Internal.H
noncomputable section
def pX:DefRec:=⟨DA "law",fA (st 90),fB (st 90),fS (st 90),⟨877,0,887,31⟩⟩
noncomputable abbrev YP(w:M4)(h:O1):Prop:=∀b o,(hf O5).W5 b=E0 o->B3 b=E0 o
theorem hdef:defOf q (DA "law")=E0 (pX,[]):=by kernel_rfl
theorem hp:pw.theDef (DA "law")=E0 (pX.tC,pX.O4,pX.Z8):=by kernel_rfl
theorem aB0:(chainsOk q&&opensWell pw&&(frees lb&&lb.within.WL))=I0:=by kernel_rfl
theorem u90:lb.u90:=by w_witness2
theorem I8(K2:WalkO q eR (λ _ _=>lP) YP lb pX [] λ f vs=>W7 f vs):IV0:=
 holds_law said λ hs=>holds_open (r:=rw0.row) (q:=q) (eR:=eR) (Xt:=λ _=>I0) (XP:=λ _ _=>lP) (Yf:=λ s:D1=>W0) (Ya:=λ w:M4=>hf O5) (YP:=YP) (N:=20000)
  e_ (λ w s e b o x=>by rw[e];exact x) (λ w h h' x k b o e=>k _ _ (x _ _ e)) (λ _ _=>zD) (λ _ _ _ _ _=>zD) hdef hp (by rfl)
  (λ s _=>recFacts_of (R:=lb.records) (by rfl)) (by rfl) hs aB0 ⟨O,O,O,O,O,by kernel_rfl⟩ u90 K2
end
end Mine.Internal.H
end
section
namespace Mine.Internal
universe u
theorem viaC{G:Prop}(k:∀C:Prop,(G->C)->C):G:=k G λ x=>x
theorem vN{P Q:Prop}{Z:Prop}:(P/\Q)->(P->Q->Z)->Z:=λ h k=>k h.1 h.2
theorem Ln{P Q R:Prop}{Z:Prop}:(P/\Q/\R)->(P->Q->R->Z)->Z:=λ h k=>k h.1 h.2.1 h.2.2
theorem e0n4{P Q R S:Prop}{Z:Prop}:(P/\Q/\R/\S)->(P->Q->R->S->Z)->Z:=λ h k=>k h.1 h.2.1 h.2.2.1 h.2.2.2
theorem e0n5{P Q R S T:Prop}{Z:Prop}:(P/\Q/\R/\S/\T)->(P->Q->R->S->T->Z)->Z:=λ h k=>k h.1 h.2.1 h.2.2.1 h.2.2.2.1 h.2.2.2.2
theorem e0n6{P Q R S T U:Prop}{Z:Prop}:(P/\Q/\R/\S/\T/\U)->(P->Q->R->S->T->U->Z)->Z:=λ h k=>k h.1 h.2.1 h.2.2.1 h.2.2.2.1 h.2.2.2.2.1 h.2.2.2.2.2
theorem e0n7{P Q R S T U V:Prop}{Z:Prop}:(P/\Q/\R/\S/\T/\U/\V)->(P->Q->R->S->T->U->V->Z)->Z:=λ h k=>k h.1 h.2.1 h.2.2.1 h.2.2.2.1 h.2.2.2.2.1 h.2.2.2.2.2.1 h.2.2.2.2.2.2
theorem wL{A:Sort u}{P:A->Prop}{Z:Prop}:(∃a,P a)->(∀a:A,P a->Z)->Z:=λ h k=>V4 λ a h=>k a h
theorem f_{A:Sort u}{P Q:A->Prop}{Z:Prop}:(∃a,P a/\Q a)->(∀a:A,P a->Q a->Z)->Z:=λ h k=>V4 λ a h=>k a h.1 h.2
theorem fU{A:Sort u}{P Q R:A->Prop}{Z:Prop}:(∃a,P a/\Q a/\R a)->(∀a:A,P a->Q a->R a->Z)->Z:=λ h k=>V4 λ a h=>k a h.1 h.2.1 h.2.2
theorem e1n5{A:Sort u}{P Q R S:A->Prop}{Z:Prop}:(∃a,P a/\Q a/\R a/\S a)->(∀a:A,P a->Q a->R a->S a->Z)->Z:=λ h k=>V4 λ a h=>k a h.1 h.2.1 h.2.2.1 h.2.2.2
theorem e1n6{A:Sort u}{P Q R S T:A->Prop}{Z:Prop}:(∃a,P a/\Q a/\R a/\S a/\T a)->(∀a:A,P a->Q a->R a->S a->T a->Z)->Z:=λ h k=>V4 λ a h=>k a h.1 h.2.1 h.2.2.1 h.2.2.2.1 h.2.2.2.2
theorem e2n3{A:Sort u}{B:Sort u}{P:A->B->Prop}{Z:Prop}:(∃a b,P a b)->(∀a:A,∀b:B,P a b->Z)->Z:=λ h k=>V4 λ a h=>V4 λ b h=>k a b h
theorem e2n4{A:Sort u}{B:Sort u}{P Q:A->B->Prop}{Z:Prop}:(∃a b,P a b/\Q a b)->(∀a:A,∀b:B,P a b->Q a b->Z)->Z:=λ h k=>V4 λ a h=>V4 λ b h=>k a b h.1 h.2
theorem e2n5{A:Sort u}{B:Sort u}{P Q R:A->B->Prop}{Z:Prop}:(∃a b,P a b/\Q a b/\R a b)->(∀a:A,∀b:B,P a b->Q a b->R a b->Z)->Z:=λ h k=>V4 λ a h=>V4 λ b h=>k a b h.1 h.2.1 h.2.2
theorem e2n6{A:Sort u}{B:Sort u}{P Q R S:A->B->Prop}{Z:Prop}:(∃a b,P a b/\Q a b/\R a b/\S a b)->(∀a:A,∀b:B,P a b->Q a b->R a b->S a b->Z)->Z:=λ h k=>V4 λ a h=>V4 λ b h=>k a b h.1 h.2.1 h.2.2.1 h.2.2.2
theorem e2n7{A:Sort u}{B:Sort u}{P Q R S T:A->B->Prop}{Z:Prop}:(∃a b,P a b/\Q a b/\R a b/\S a b/\T a b)->(∀a:A,∀b:B,P a b->Q a b->R a b->S a b->T a b->Z)->Z:=λ h k=>V4 λ a h=>V4 λ b h=>k a b h.1 h.2.1 h.2.2.1 h.2.2.2.1 h.2.2.2.2
theorem e3n4{A:Sort u}{B:Sort u}{C:Sort u}{P:A->B->C->Prop}{Z:Prop}:(∃a b c,P a b c)->(∀a:A,∀b:B,∀c:C,P a b c->Z)->Z:=λ h k=>V4 λ a h=>V4 λ b h=>V4 λ c h=>k a b c h
theorem e3n5{A:Sort u}{B:Sort u}{C:Sort u}{P Q:A->B->C->Prop}{Z:Prop}:(∃a b c,P a b c/\Q a b c)->(∀a:A,∀b:B,∀c:C,P a b c->Q a b c->Z)->Z:=λ h k=>V4 λ a h=>V4 λ b h=>V4 λ c h=>k a b c h.1 h.2
theorem e3n6{A:Sort u}{B:Sort u}{C:Sort u}{P Q R:A->B->C->Prop}{Z:Prop}:(∃a b c,P a b c/\Q a b c/\R a b c)->(∀a:A,∀b:B,∀c:C,P a b c->Q a b c->R a b c->Z)->Z:=λ h k=>V4 λ a h=>V4 λ b h=>V4 λ c h=>k a b c h.1 h.2.1 h.2.2
theorem e3n7{A:Sort u}{B:Sort u}{C:Sort u}{P Q R S:A->B->C->Prop}{Z:Prop}:(∃a b c,P a b c/\Q a b c/\R a b c/\S a b c)->(∀a:A,∀b:B,∀c:C,P a b c->Q a b c->R a b c->S a b c->Z)->Z:=λ h k=>V4 λ a h=>V4 λ b h=>V4 λ c h=>k a b c h.1 h.2.1 h.2.2.1 h.2.2.2
theorem e3n8{A:Sort u}{B:Sort u}{C:Sort u}{P Q R S T:A->B->C->Prop}{Z:Prop}:(∃a b c,P a b c/\Q a b c/\R a b c/\S a b c/\T a b c)->(∀a:A,∀b:B,∀c:C,P a b c->Q a b c->R a b c->S a b c->T a b c->Z)->Z:=λ h k=>V4 λ a h=>V4 λ b h=>V4 λ c h=>k a b c h.1 h.2.1 h.2.2.1 h.2.2.2.1 h.2.2.2.2
theorem e3n9{A:Sort u}{B:Sort u}{C:Sort u}{P Q R S T U:A->B->C->Prop}{Z:Prop}:(∃a b c,P a b c/\Q a b c/\R a b c/\S a b c/\T a b c/\U a b c)->(∀a:A,∀b:B,∀c:C,P a b c->Q a b c->R a b c->S a b c->T a b c->U a b c->Z)->Z:=λ h k=>V4 λ a h=>V4 λ b h=>V4 λ c h=>k a b c h.1 h.2.1 h.2.2.1 h.2.2.2.1 h.2.2.2.2.1 h.2.2.2.2.2
theorem e4n5{A:Sort u}{B:Sort u}{C:Sort u}{D:Sort u}{P:A->B->C->D->Prop}{Z:Prop}:(∃a b c d,P a b c d)->(∀a:A,∀b:B,∀c:C,∀d:D,P a b c d->Z)->Z:=λ h k=>V4 λ a h=>V4 λ b h=>V4 λ c h=>V4 λ d h=>k a b c d h
theorem e4n6{A:Sort u}{B:Sort u}{C:Sort u}{D:Sort u}{P Q:A->B->C->D->Prop}{Z:Prop}:(∃a b c d,P a b c d/\Q a b c d)->(∀a:A,∀b:B,∀c:C,∀d:D,P a b c d->Q a b c d->Z)->Z:=λ h k=>V4 λ a h=>V4 λ b h=>V4 λ c h=>V4 λ d h=>k a b c d h.1 h.2
theorem e4n7{A:Sort u}{B:Sort u}{C:Sort u}{D:Sort u}{P Q R:A->B->C->D->Prop}{Z:Prop}:(∃a b c d,P a b c d/\Q a b c d/\R a b c d)->(∀a:A,∀b:B,∀c:C,∀d:D,P a b c d->Q a b c d->R a b c d->Z)->Z:=λ h k=>V4 λ a h=>V4 λ b h=>V4 λ c h=>V4 λ d h=>k a b c d h.1 h.2.1 h.2.2
theorem e4n8{A:Sort u}{B:Sort u}{C:Sort u}{D:Sort u}{P Q R S:A->B->C->D->Prop}{Z:Prop}:(∃a b c d,P a b c d/\Q a b c d/\R a b c d/\S a b c d)->(∀a:A,∀b:B,∀c:C,∀d:D,P a b c d->Q a b c d->R a b c d->S a b c d->Z)->Z:=λ h k=>V4 λ a h=>V4 λ b h=>V4 λ c h=>V4 λ d h=>k a b c d h.1 h.2.1 h.2.2.1 h.2.2.2
theorem e4n9{A:Sort u}{B:Sort u}{C:Sort u}{D:Sort u}{P Q R S T:A->B->C->D->Prop}{Z:Prop}:(∃a b c d,P a b c d/\Q a b c d/\R a b c d/\S a b c d/\T a b c d)->(∀a:A,∀b:B,∀c:C,∀d:D,P a b c d->Q a b c d->R a b c d->S a b c d->T a b c d->Z)->Z:=λ h k=>V4 λ a h=>V4 λ b h=>V4 λ c h=>V4 λ d h=>k a b c d h.1 h.2.1 h.2.2.1 h.2.2.2.1 h.2.2.2.2
theorem e5n6{A:Sort u}{B:Sort u}{C:Sort u}{D:Sort u}{E:Sort u}{P:A->B->C->D->E->Prop}{Z:Prop}:(∃a b c d e,P a b c d e)->(∀a:A,∀b:B,∀c:C,∀d:D,∀e:E,P a b c d e->Z)->Z:=λ h k=>V4 λ a h=>V4 λ b h=>V4 λ c h=>V4 λ d h=>V4 λ e h=>k a b c d e h
theorem e5n9{A:Sort u}{B:Sort u}{C:Sort u}{D:Sort u}{E:Sort u}{P Q R S:A->B->C->D->E->Prop}{Z:Prop}:(∃a b c d e,P a b c d e/\Q a b c d e/\R a b c d e/\S a b c d e)->(∀a:A,∀b:B,∀c:C,∀d:D,∀e:E,P a b c d e->Q a b c d e->R a b c d e->S a b c d e->Z)->Z:=λ h k=>V4 λ a h=>V4 λ b h=>V4 λ c h=>V4 λ d h=>V4 λ e h=>k a b c d e h.1 h.2.1 h.2.2.1 h.2.2.2
theorem i1n3{A:Sort u}{P Q:A->Prop}(a:A)(h0:P a)(h1:Q a):∃a,P a/\Q a:=⟨a,h0,h1⟩
theorem i1n4{A:Sort u}{P Q R:A->Prop}(a:A)(h0:P a)(h1:Q a)(h2:R a):∃a,P a/\Q a/\R a:=⟨a,h0,h1,h2⟩
theorem i1n5{A:Sort u}{P Q R S:A->Prop}(a:A)(h0:P a)(h1:Q a)(h2:R a)(h3:S a):∃a,P a/\Q a/\R a/\S a:=⟨a,h0,h1,h2,h3⟩
theorem i1n6{A:Sort u}{P Q R S T:A->Prop}(a:A)(h0:P a)(h1:Q a)(h2:R a)(h3:S a)(h4:T a):∃a,P a/\Q a/\R a/\S a/\T a:=⟨a,h0,h1,h2,h3,h4⟩
theorem i2n3{A:Sort u}{B:Sort u}{P:A->B->Prop}(a:A)(b:B)(h0:P a b):∃a b,P a b:=⟨a,b,h0⟩
theorem i2n4{A:Sort u}{B:Sort u}{P Q:A->B->Prop}(a:A)(b:B)(h0:P a b)(h1:Q a b):∃a b,P a b/\Q a b:=⟨a,b,h0,h1⟩
theorem i2n5{A:Sort u}{B:Sort u}{P Q R:A->B->Prop}(a:A)(b:B)(h0:P a b)(h1:Q a b)(h2:R a b):∃a b,P a b/\Q a b/\R a b:=⟨a,b,h0,h1,h2⟩
theorem i2n6{A:Sort u}{B:Sort u}{P Q R S:A->B->Prop}(a:A)(b:B)(h0:P a b)(h1:Q a b)(h2:R a b)(h3:S a b):∃a b,P a b/\Q a b/\R a b/\S a b:=⟨a,b,h0,h1,h2,h3⟩
theorem i2n7{A:Sort u}{B:Sort u}{P Q R S T:A->B->Prop}(a:A)(b:B)(h0:P a b)(h1:Q a b)(h2:R a b)(h3:S a b)(h4:T a b):∃a b,P a b/\Q a b/\R a b/\S a b/\T a b:=⟨a,b,h0,h1,h2,h3,h4⟩
theorem i3n4{A:Sort u}{B:Sort u}{C:Sort u}{P:A->B->C->Prop}(a:A)(b:B)(c:C)(h0:P a b c):∃a b c,P a b c:=⟨a,b,c,h0⟩
theorem i3n5{A:Sort u}{B:Sort u}{C:Sort u}{P Q:A->B->C->Prop}(a:A)(b:B)(c:C)(h0:P a b c)(h1:Q a b c):∃a b c,P a b c/\Q a b c:=⟨a,b,c,h0,h1⟩
theorem i3n6{A:Sort u}{B:Sort u}{C:Sort u}{P Q R:A->B->C->Prop}(a:A)(b:B)(c:C)(h0:P a b c)(h1:Q a b c)(h2:R a b c):∃a b c,P a b c/\Q a b c/\R a b c:=⟨a,b,c,h0,h1,h2⟩
theorem i3n7{A:Sort u}{B:Sort u}{C:Sort u}{P Q R S:A->B->C->Prop}(a:A)(b:B)(c:C)(h0:P a b c)(h1:Q a b c)(h2:R a b c)(h3:S a b c):∃a b c,P a b c/\Q a b c/\R a b c/\S a b c:=⟨a,b,c,h0,h1,h2,h3⟩
theorem i3n8{A:Sort u}{B:Sort u}{C:Sort u}{P Q R S T:A->B->C->Prop}(a:A)(b:B)(c:C)(h0:P a b c)(h1:Q a b c)(h2:R a b c)(h3:S a b c)(h4:T a b c):∃a b c,P a b c/\Q a b c/\R a b c/\S a b c/\T a b c:=⟨a,b,c,h0,h1,h2,h3,h4⟩
theorem i4n5{A:Sort u}{B:Sort u}{C:Sort u}{D:Sort u}{P:A->B->C->D->Prop}(a:A)(b:B)(c:C)(d:D)(h0:P a b c d):∃a b c d,P a b c d:=⟨a,b,c,d,h0⟩
theorem i4n6{A:Sort u}{B:Sort u}{C:Sort u}{D:Sort u}{P Q:A->B->C->D->Prop}(a:A)(b:B)(c:C)(d:D)(h0:P a b c d)(h1:Q a b c d):∃a b c d,P a b c d/\Q a b c d:=⟨a,b,c,d,h0,h1⟩
theorem i4n8{A:Sort u}{B:Sort u}{C:Sort u}{D:Sort u}{P Q R S:A->B->C->D->Prop}(a:A)(b:B)(c:C)(d:D)(h0:P a b c d)(h1:Q a b c d)(h2:R a b c d)(h3:S a b c d):∃a b c d,P a b c d/\Q a b c d/\R a b c d/\S a b c d:=⟨a,b,c,d,h0,h1,h2,h3⟩
theorem i4n9{A:Sort u}{B:Sort u}{C:Sort u}{D:Sort u}{P Q R S T:A->B->C->D->Prop}(a:A)(b:B)(c:C)(d:D)(h0:P a b c d)(h1:Q a b c d)(h2:R a b c d)(h3:S a b c d)(h4:T a b c d):∃a b c d,P a b c d/\Q a b c d/\R a b c d/\S a b c d/\T a b c d:=⟨a,b,c,d,h0,h1,h2,h3,h4⟩
theorem i5n9{A:Sort u}{B:Sort u}{C:Sort u}{D:Sort u}{E:Sort u}{P Q R S:A->B->C->D->E->Prop}(a:A)(b:B)(c:C)(d:D)(e:E)(h0:P a b c d e)(h1:Q a b c d e)(h2:R a b c d e)(h3:S a b c d e):∃a b c d e,P a b c d e/\Q a b c d e/\R a b c d e/\S a b c d e:=⟨a,b,c,d,e,h0,h1,h2,h3⟩
@[elab_as_elim] theorem rw0{α:Sort u}{a b:α}{Ye:α->Prop}(h:a=b)(x:Ye b):Ye a:=h▸x
@[elab_as_elim] theorem rw1{α:Sort u}{a b:α}{Ye:α->Prop}(h:b=a)(x:Ye b):Ye a:=h▸x
theorem BM{x c C:C0}(h:x<=c)(q:O9 c C=I0):x<=C:=W6 h (i6 q)
theorem Aa{x c C:C0}(h:x=c)(q:O9 (c+1) C=I0):x<C:=h▸i6 q
theorem nU{x y c d C:C0}(h:x<=c)(k:y<=d)(q:O9 (c+d) C=I0):x+y<=C:=W6 (uT h k) (i6 q)
theorem ω8{x0 x1 x2:C0}(h0:x0<=x1)(h2:x2<=x1):x0-(x1-x2)=x2-(x1-x0):=by
 have t:=C0.sub_right_comm x1 (x1-x0) (x1-x2);rwa [ss h0,ss h2]at t
theorem ω9:∀x<3,x=0\/x=1\/x=2:=by decide
theorem ω10{x0 x1 x2:C0}(h1:x1<=x0+x2):(x2+1)-(x1-x0)=(x2-(x1-x0))+1:=C0.succ_sub (NS0 h1)
theorem ω11{x0:A2}{x1:C0}(h0:x0<0):No (x0+(x1:A2)) 0=No 0 (uB (x0+(x1:A2)) (x1:A2)):=by
 have t:x0+(x1:A2)<=x1:=A2.le_trans (A2.add_le_add_right (A2.le_of_lt h0) x1) (A2.le_of_eq (A2.zero_add _));rw[A2.min_eq_left t,A2.max_comm]
theorem ω12{x0 x1 x2:C0}(h0:x0-x1=x2+1):x0-(x1+1)=x2:=G6 yZ h0
theorem ω13{x0 x1 x2:C0}(h0:x0<=x1)(h1:x1<=x0+x2):x0+(x2-(x2-(x1-x0)))=x1:=by rw[ss (NS0 h1),C0.add_sub_of_le h0]
theorem ω15{x0 x1:C0}(h0:x0<x1):x1-x0=(x1-(x0+1))+1:=(C0.succ_pred (C0.sub_ne_zero_of_lt h0)).Y3
theorem ω16{x4 x2 x0 x5:C0}(h0:x0<=60)(h4:x5=16777216):uB (x4-x2) (x0-x2)<=x5:=h4▸W6 (C0.FU0 _ _) (W6 (C0.sub_le _ _) (BM h0 O))
theorem ω17{x0 x1:C0}:x1-(x0+1)=(x1-1)-x0:=pU0 1 x0▸(C0.sub_sub x1 1 x0).Y3
theorem ω18:∀x<4,x=0\/x=1\/x=2\/x=3:=by decide
theorem ω19{x z:C0}(h:x<1114112):((x+1)+1114113*z)%1114113=x+1:=(C0.add_mul_mod_self_left ..).V2 (C0.mod_eq_of_lt (At h))
theorem ω20{x z:C0}(h:x<1114112):((x+1)+1114113*z)/1114113=z:=(C0.add_mul_div_left _ _ (i6 O)).V2 ((G6 (· +z) (C0.div_eq_of_lt (At h))).V2 (TW z))
theorem ω21{x0 x1 x2 x3:C0}(h0:x0<1114112)(h1:x1<1114112)(h2:(x0+1)+1114113*x2=(x1+1)+1114113*x3):x0=x1/\x2=x3:=
 ⟨dZ ((ω19 h0).Y3.V2 ((G6 (· %1114113) h2).V2 (ω19 h1))),(ω20 h0).Y3.V2 ((G6 (· /1114113) h2).V2 (ω20 h1))⟩
theorem ω22{x0 x2:C0}(h0:x0<1114112):(((x0+1)+1114113*x2)%1114113)-1=x0:=G6 yZ (ω19 h0)
theorem ω25{x0 x1 x2:C0}(h0:(x0+(x1+1))+50<=x2):x0<x2:=U8 (sp (pc x1)) (W6 (MG _ 50) h0)
theorem ω26{x0 x2:C0}{x1:A2}(h0:(x0:A2)=No 0 (uB x1 (x2:A2))):x0<=x2:=CS0.mp (h0▸A2.gV0 ⟨JL _,A2.FU0 _ _⟩)
theorem ω27{x0 x1:C0}(h:x0<=x1):x0-x1=0:=C0.sub_eq_zero_of_le h
theorem ω28{x0 x1:C0}(h0:x0=x1+4\/x0=x1+3\/x0=x1\/x0=x1+1):x1<=x0:=by rcases h0 with h|h|h|h<;>rw[h]<;>first|exact MG x1 _|exact A8 _
theorem ω30{x0:C0}(h1:¬(0:A2)<FA x0):(0:A2)=(x0:A2):=A2.I90 (JL _) (lk h1)
theorem ω31{x0 x1 x2 k:C0}(h0:(x0+8*(x1+1))+500<=x2)(q:O9 k 8=I0):((x0+k)+8*x1)+500<=x2:=
 W6 (Qr (W6 (FP (C0.add_right_comm x0 k (8*x1))) (hV (i6 q) (x0+8*x1))) 500) h0
theorem ω32{x1 x2:C0}(h2:x2<=x1):x2=x1-(x1-x2):=(ss h2).Y3
theorem ω33{x0 x1 x2:C0}(h0:x0-x1=x2+1):x1<x0:=C0.lt_of_sub_eq_succ h0
theorem ω34{x0 x1:C0}(h0:x0=x1)(h1:¬x1<3)(h2:x0<5)(h3:x1≠3):x1=4:=(by decide:∀x<5,¬x<3->x≠3->x=4) x1 (h0▸h2) h1 h3
theorem ω36{x0:A2}{x1:C0}(h0:¬x0<0):uB x0 (x1:A2)=No 0 (uB x0 (x1:A2)):=(A2.max_eq_right (A2.le_min.B8 ⟨lk h0,JL _⟩)).Y3
theorem ω37{x0 x1 x2 x3:C0}(h0:x0<=x1)(h1:(x2+8*x1)+500<=x3):(x2+8*x0)+500<=x3:=W6 (Qr (hV (C0.mul_le_mul_left 8 h0) x2) 500) h1
theorem ω40{x0 x1 x2:C0}(h0:(x0+(x1+1))+50<=x2):((x0+1)+x1)+50<=x2:=W6 (FP (G6 (· +50) (MZ x0 x1))) h0
theorem ω42{x0 x2 p a:C0}(h1:p<=x2)(q:O9 a 1114113=I0):p*a<=(x0+1)+1114113*x2:=W6 (C0.mul_le_mul h1 (i6 q)) (C0.mul_comm 1114113 x2▸hT0 _ _)
theorem ω43{x0 x1 x2 x3 x4:C0}(h0:x0<=60)(h1:uB x1 x2<=x1)(h2:x1<=x0)(h3:x3+100<x4):x3+uB x1 x2<x4:=wa (hV (W6 h1 (W6 h2 (BM h0 O))) x3) h3
theorem ω44{x0 x1 x2:C0}(h0:x0<=x1)(h1:x2+1=x0):x2<=x1-1:=C0.le_sub_of_add_le (h1▸h0)
theorem ω45{x0 x1 x2:C0}(h0:(x0+x1)+50<=x2):x0+20<=x2:=W6 (uT (MG x0 x1) (i6 O)) h0
theorem ω46{x0 x1:C0}(h0:x0<1)(h1:x1<1):x0=x1:=(Rs h0).V2 (Rs h1).Y3
theorem ω47{x0 x1 x2:C0}(h0:x0+(x1+1)<=x2):(x0+1)+x1<=x2:=W6 (FP (MZ x0 x1)) h0
theorem ω48{x0 x1 c:C0}(h0:x0+1=x1)(h1:x1<=c):x0<=c:=by rw[<-h0]at h1;exact j80 h1
theorem ω49{x0 x1 x2 x3 x4:C0}(h0:x0+x1<=100000)(h1:x2<=x0)(h2:x3<=x1)(h3:x4=16777216):x2+x3<=x4:=h3▸W6 (uT h1 h2) (BM h0 O)
theorem ω50{x0 x1 x2 x3 x4 x5:C0}(h0:x0<=x1)(h1:x2<=x3)(h2:x4<=x5):(x0+x2)+x4<=(x1+x3)+x5:=uT (uT h0 h1) h2
theorem ω52{x0 x1 x2:C0}(h0:x0<=x1):x0<uB x0 x1+(x2+1):=(pj h0).Y3▸sp (pc _)
theorem ω53{x0 x1:C0}(h0:x0+100<x1):(x0+1)+64<x1:=wa (show x0+65<=x0+100 from hV (i6 O) x0) h0
theorem ω54{x0 x1 x2:C0}(h0:20*x0<=x1)(h1:x2=x0):x2<=x1:=h1▸W6 (M80 x0 (pc 19)) h0
theorem ω55{x0 x1 x2:C0}(h0:x0+(x1+1)=x2):(x0+1)+x1=x2:=(MZ x0 x1).V2 h0
theorem ω57{x0 x1 x2 x3 x4:C0}(h0:x0<=x1)(h1:x1<=60)(h2:uB x0 x2<=x0)(h3:x3+100<x4):(x3+1)+uB x0 x2<x4:=
 wa (Gc x3 1 _▸hV (W6 (hV (W6 h2 (W6 h0 h1)) 1) (i6 O)) x3) h3
theorem ω58{x0 x1 x2:C0}(h0:x0<=195)(h1:x1<=195)(h2:x2<=195):(x0+x1)+(x2+x1)<=100000:=nU (uT h0 h1) (uT h2 h1) O
theorem ω59{x0 x1 x2 x3:C0}(h0:x0<=x1)(h1:(x2+x1)+50<=x3):(x2+x0)+50<=x3:=W6 (Qr (hV h0 x2) 50) h1
theorem ω60{x0 x1:C0}(h0:¬x0<=x1):x0<=x0/\x1<=x0:=⟨A8 _,s80 h0⟩
theorem ω62{x0 c:C0}(h1:¬(c:A2)<(x0:A2)):x0<=c:=CS0.mp (lk h1)
theorem ω63{x0 x1:C0}(h0:¬x0=x1)(h1:x0<x1+1):x0<x1:=sS0 (Ts h1) h0
theorem ω65{x0 x1:C0}(h0:x0<=x1):x0=uB x0 x1:=(pj h0).Y3
theorem ω67{x0 x1 x2 x3:C0}(h0:x0<=x1)(h1:x2<x0)(h2:x3<=0+x2):x3<=x1:=W6 (TW x2▸h2) (GP (U8 h1 h0))
theorem ω68{x0 x1 x2:C0}(h0:x0<=x1)(h1:x2<x0):x2<uB x0 x1:=(pj h0).Y3▸h1
theorem ω69{x0 x1 x2:C0}(h0:x0<=x1)(h1:x0<x2)(h2:¬x0<x1):x1+1<=x2:=C0.I90 h0 (C0.C80 h2)▸h1
theorem ω70{x0 x1:C0}(h0:¬x0<=x1):x1=uB x0 x1:=(ST0 (s80 h0)).Y3
theorem ω71{x0 x1 c:C0}{C:C0}(h0:x0<=c)(h1:x0=x1)(q:O9 (c+1) C=I0):x1<C:=h1▸W6 (yJ h0) (i6 q)
theorem ω73{x0 x1:C0}(h0:20*x0<=x1)(h1:x1<=3900):x0<=195:=C0.le_of_mul_le_mul_left (a:=x0) (b:=195) (c:=20) (W6 h0 h1) (pc 19)
theorem ω74{x0 x1 x2:C0}(h0:x0<=x1+x2):x0+1<=(x1+1)+(x2+1):=yJ (W6 h0 (Qr (LN x1) x2))
theorem ω75{x0 x1:C0}(h0:¬x0<x1):(x1:A2)-(x0:A2)<=0:=A2.sub_nonpos_of_le (y80 (C0.C80 h0))
theorem ω77{x0 x1:C0}(h0:XW x0<XW x1):x1<x0:=C0.lt_of_succ_lt_succ (rc.mp (tS0.mp h0))
theorem ω79{x0 x1:C0}(h:x0+20<=x1):x0+1<x1:=W6 (show x0+2<=x0+20 from hV (i6 O) x0) h
theorem ω82{x0 x1 x2:C0}(h:x0<=x1+x2):x0+1<=(x1+1)+x2:=W6 (yJ h) (FP (C0.succ_add x1 x2).Y3)
theorem ω83{x0 x1 x2:C0}(h:x0+(x1+1)=x2):x0<x2:=h▸sp (pc x1)
theorem ω84{x0 x1:C0}(h:x0<x1):(0:A2)<(x1:A2)-(x0:A2):=A2.sub_pos_of_lt (rc.B8 h)
theorem ω85{x0 x1:C0}(h:x0<x1):XW x1<XW x0:=tS0.B8 (rc.B8 (At h))
theorem ω87{x0 x1 x2:C0}(h:(x0+8*x1)+500<=x2):x0+100<x2:=W6 (uT (MG x0 (8*x1)) (i6 O:101<=500)) h
theorem ω100{x:C0}(h:x<=2):x=0\/x=1\/x=2:=ω9 x (l80 h)
theorem ω101{x y z:C0}(h:x<3)(e:y=x)(k:z=x):z<3:=k▸h
theorem ω104{x y z:C0}(h:x+y<=z):x<=z:=W6 (MG x y) h
theorem ω105{x y z:C0}(h:x+(y+1)<=z):x<z:=U8 (sp (pc y)) h
theorem ω112{x y z:C0}(h:x<=y)(k:z<x):z+1<=y+1:=yJ (GP (U8 k h))
theorem ω113{x:C0}:3<(0+1+1+1+1+1)+x:=U8 (i6 O:3<5) (MG 5 x)
theorem OM{P:C0->Prop}(h0:P 0)(hs:∀k,P (k+1))(k:C0):P k:=@VR (λ k=>P k) h0 (λ k _=>hs k) k
theorem kk9{P:C0->Prop}(h0:P 0)(h1:P 1)(h2:P 2)(h3:P 3)(h4:P 4)(h5:P 5)(h6:P 6)(h7:P 7)(h8:P 8)(hr:∀k,P (k+9))(k:C0):P k:=(OM (P:=P) h0 (OM (P:=λ k=>P (k+1)) h1 (OM (P:=λ k=>P (k+2)) h2 (OM (P:=λ k=>P (k+3)) h3 (OM (P:=λ k=>P (k+4)) h4 (OM (P:=λ k=>P (k+5)) h5 (OM (P:=λ k=>P (k+6)) h6 (OM (P:=λ k=>P (k+7)) h7 (OM (P:=λ k=>P (k+8)) h8 hr))))))))) k
end Mine.Internal
end
set_option tactic.hygienic false
set_option backward.match.sparseCases false
set_option bootstrap.genMatcherCode false
set_option genCtorIdx false
set_option maxRecDepth 100000
namespace Mine.Internal
open PySem PySem.W PySem.Calls PySem.SeqAt
open Sem (wp)
section
section
def pC(c n:C0):C0:=bif Y1 n 0 then 0 else bif X6 c 1114112 then JF (HH c) (C0.Ba 1114113 n)else 0
def Z7:P0 C0->C0
 |[]=>1
 |c::l=>pC c (Z7 l)
def vc(s:C1):C0:=Z7 s.zR0
inductive PV where
 |H0
 |N3(b:I1)
 |j0(i:A2)
 |Y0(s:C0)
 |AG(n:C0)
 |B0
 |A0(a r:PV)
 |kv(k:C0)(v r:PV)
 |Q0(l:PV)
 |J0(i:C0)
 |Z0(a:C0)
 |ty(i:C0)
 |wr(i:C0)
 |lC(i:C0)
 deriving Inhabited
@[reducible] def PV.JJ(x:PV):C0:=@P3 (λ _=>C0) x 0 (λ _=>1) (λ _=>2) (λ _=>3) (λ _=>4) 5 (λ _ _=>6) (λ _ _ _=>7) (λ _=>8) (λ _=>9) (λ _=>10) (λ _=>11) (λ _=>12) (λ _=>13)
mutual
inductive gK where|add|sub|mul
inductive bG where|eq|ne|isin|pI|cG|mE|gt|lt|ge
inductive B1 where|len|ig|sorted|str
inductive Mt where|append|pop|extend|get|setdefault|update|join|split|other
inductive Mk where|tup|list|dict
end
@[reducible] def gK.JJ(x:gK):C0:=@gK.W9 (λ _=>C0) x 0 1 2
@[reducible] def bG.JJ(x:bG):C0:=@bG.W9 (λ _=>C0) x 0 1 2 3 4 5 6 7 8
@[reducible] def B1.JJ(x:B1):C0:=@B1.W9 (λ _=>C0) x 0 1 2 3
@[reducible] def Mt.JJ(x:Mt):C0:=@j00 (λ _=>C0) x 0 1 2 3 4 5 6 7 8
@[reducible] def Mk.JJ(x:Mk):C0:=@kf (λ _=>C0) x 0 1 2
inductive C where
 |M2
 |u0(v:PV)
 |F0(x:C0)
 |B0
 |A0(a r:C)
 |K2(f l:C)
 |E4(m:Mt)(x:C0)(o l:C)
 |Z1(x:C0)(o:C)
 |w0(o i:C)
 |S1(op:bG)(a b:C)
 |Q0(l:C)
 |M1(l:C)
 |H2(l:C)
 |J7(c a b:C)
 |C8(a b:C)
 |or(a b:C)
 |eH(a:C)
 |K6(op:gK)(a b:C)
 |dE(o lo hi:C)
 |uP(o:C)
 |b1(op:B1)(e:C)
 |mk(k:Mk)(it:C)
 |H7(X5 P4 z6 it:C)
 |lA(k:C0)
 |S4(e:C)
 |iK(a b:C)
 |qX(a:C)
 |Ma(e:C)
@[reducible] def C.JJ(x:C):C0:=@C.W9 (λ _=>C0) x 0 (λ _=>1) (λ _=>2) 3 (λ _ _=>4) (λ _ _=>5) (λ _ _ _ _=>6) (λ _ _=>7) (λ _ _=>8) (λ _ _ _=>9) (λ _=>10) (λ _=>11) (λ _=>12) (λ _ _ _=>13) (λ _ _=>14) (λ _ _=>15) (λ _=>16) (λ _ _ _=>17) (λ _ _ _=>18) (λ _=>19) (λ _ _=>20) (λ _ _=>21) (λ _ _ _ _=>22) (λ _=>23) (λ _=>24) (λ _ _=>25) (λ _=>26) (λ _=>27)
inductive S where
 |B0
 |M2
 |V1(t e:C)(r:S)
 |U1(e:C)
 |J3(c:C)(a b:S)(r:S)
 |A6(e:C)(r:S)
 |OE(t it:C)(b:S)(r:S)
 |CM(c:C)(b:S)(r:S)
 |ZB
 |YB
 |fC(e:C)
 |OO(b:S)(h:S)(r:S)
 |gU(c:C0)(v:PV)(r:S)
 |jg(c:C0)(l:C)(r:S)
 |lg(c:C0)(x:C0)(d a y:C0)(r:S)
 |g_(x:C0)(r:S)
@[reducible] def S.JJ(x:S):C0:=@S.W9 (λ _=>C0) x 0 1 (λ _ _ _=>2) (λ _=>3) (λ _ _ _ _=>4) (λ _ _=>5) (λ _ _ _ _=>6) (λ _ _ _=>7) 8 9 (λ _=>10) (λ _ _ _=>11) (λ _ _ _=>12) (λ _ _ _=>13) (λ _ _ _ _ _ _=>14) (λ _ _=>15)
inductive TI where
 |OC(m d:C0)
 |al(j:C0)
 |eA(k:C0)
 |W8(j:C0)
 |X8(j:C0)
@[reducible] def TI.JJ(x:TI):C0:=@lf (λ _=>C0) x (λ _ _=>0) (λ _=>1) (λ _=>2) (λ _=>3) (λ _=>4)
inductive AO where
 |K4
 |M1(l:PV)
 |H2(l:PV)
 |V6(l:PV)
 |u7(c d:C0)
 |J8(cx:I1)(c d:C0)
 |lA(k:C0)
 |bm(f:C0)(h_:PV)
 |R4
 |ti(x:TI)
@[reducible] def AO.JJ(x:AO):C0:=@EA (λ _=>C0) x 0 (λ _=>1) (λ _=>2) (λ _=>3) (λ _ _=>4) (λ _ _ _=>5) (λ _=>6) (λ _ _=>7) 8 (λ _=>9)
inductive TT where
 |B0
 |S3(v:AO)(l r:TT)
namespace TT
def l9(t:TT):C0->AO:=@TT.GR (λ _=>C0->AO) (λ _=> .K4) (λ v _ _ a b i=>@O8 (λ _=>AO) (@O8 (λ _=>AO) (b (MH (NH i 2) 1)) (a (NH i 2)) (Y1 (lL i 2) 1)) v (Y1 i 0)) t
def bB0(o:AO)(k:C0):C0->TT:=@VR (λ _=>C0->TT) (λ _=> .B0) (λ _ ih i=>@O8 (λ _=>TT) (@O8 (λ _=>TT) (.S3 .K4 .B0 (ih (MH (NH i 2) 1))) (.S3 .K4 (ih (NH i 2)) .B0) (Y1 (lL i 2) 1)) (.S3 o .B0 .B0) (Y1 i 0)) k
def w8(o:AO)(t:TT):C0->TT:=@TT.GR (λ _=>C0->TT) (λ i=>bB0 o (HH i) i) (λ v l r a b i=>@O8 (λ _=>TT) (@O8 (λ _=>TT) (.S3 v l (b (MH (NH i 2) 1))) (.S3 v (a (NH i 2)) r) (Y1 (lL i 2) 1)) (.S3 o l r) (Y1 i 0)) t
end TT
structure K1 where
 t:TT
 n:C0
 u:TT:=.B0
 m:C0:=0
 ne:P0 (C0×C0):=[]
namespace K1
def n8(σ:K1)(i:C0):AO:=σ.WX i
def xl(σ:K1)(i:C0)(o:AO):K1:=⟨KX.w8 o i,tJ,Ny,D6,jP⟩
def OB(σ:K1)(o:AO):K1:=⟨KX.w8 o tJ,HH tJ,Ny,D6,jP⟩
def Bp:AO->TI
 |.ti x=>x
 |_=> .OC 31 9
def ti(σ:K1)(i:C0):TI:=Bp (Ny.l9 i)
def XJ(σ:K1)(i:C0)(x:TI):K1:=⟨KX,tJ,Oy (.ti x) i,D6,jP⟩
def Cp(σ:K1)(x:TI):K1:=⟨KX,tJ,Oy (.ti x) D6,HH D6,jP⟩
def rX(σ:K1)(i j:C0):K1:=⟨KX,tJ,Ny,D6,(i,j)::jP⟩
def FW0(d:C0):TI->C0
 |.al j=>j
 |_=>d
def der(σ:K1)(i:C0):C0:=@VR (λ _=>C0->C0) (λ i=>i) (λ _ ih i=>match V8 i with|.al j=>ih j|_=>i) 6 i
def cy:TI->TI->Q1 (C0×C0)
 |.W8 a,.W8 b=>E0 (a,b)
 |.X8 a,.X8 b=>E0 (a,b)
 |_,_=>B2
def v00(k:C0):TI->I1
 |.eA j=>Y1 j k
 |_=>R0
def w00(i j a b:C0):I1:=bif Y1 a i then Y1 b j else bif Y1 a j then Y1 b i else R0
def cB0(σ:K1)(i j:C0)(p:C0×C0):I1:=bif w00 i j p.1 p.2 then I0 else
 @ZW (C0×C0) (λ _=>I1) R0 (λ q=>w00 i j (G7 q.1) (G7 q.2)) (cy (V8 (G7 p.1)) (V8 (G7 p.2)))
def dB0(σ:K1)(i k:C0):I1:=@cL (C0×C0) (λ _=>I1) R0 (λ p _ ih=>bif Y1 (G7 p.1) i then(bif v00 k (V8 (G7 p.2))then I0 else ih)else bif Y1 (G7 p.2) i then(bif v00 k (V8 (G7 p.1))then I0 else ih)else ih) jP
def isNe(σ:K1)(i j:C0):I1:=@cL (C0×C0) (λ _=>I1) R0 (λ p _ ih=>bif σ.cB0 i j p then I0 else ih) jP
end K1
inductive I7(α:Type)where
 |x8(a:α)(s:K1)
 |J8(i:C0)(s:K1)
 |YH(n:C0)(k:C0->I7 α)
 |eJ(w:C0)
def I7.P1{α:Type}(P:α->K1->Prop)(X:C0->K1->Prop):I7 α->Prop
 |.x8 a s=>P a s
 |.J8 i s=>X i s
 |.YH n k=>∀d,d<n->(k d).P1 P X
 |.eJ _=>I6
def I7.R6{α β:Type}(f:α->K1->I7 β)(o:I7 α):I7 β:=
 @xz α (λ _=>I7 β) (λ a s=>f a s) (λ i s=> .J8 i s) (λ n _ ih=> .YH n ih) (λ w=> .eJ w) o
def mx{α:Type}(h:C0->K1->I7 α)(o:I7 α):I7 α:=
 @xz α (λ _=>I7 α) (λ a s=> .x8 a s) (λ i s=>h i s) (λ n _ ih=> .YH n ih) (λ w=> .eJ w) o
def M(α:Type):=K1->I7 α
def F1{α β:Type}(m:M α)(f:α->M β):M β:=λ s=>I7.R6 f (m s)
def W1{α:Type}(a:α):M α:=λ s=> .x8 a s
def F2{α:Type}(w:C0):M α:=λ _=> .eJ w
def pn{α:Type}(i:C0):M α:=λ s=> .J8 i s
def qW(i:C0)(o:AO):M S7:=λ s=> .x8 () (s.xl i o)
def Q9(o:AO):M PV:=λ s=> .x8 (.J0 s.n) (s.OB o)
def w5{α:Type}(w:C0)(o:Q1 α):M α:=@ZW α (λ _=>M α) (F2 w) (λ a=>W1 a) o
def RI{α:Type}(b:I1)(x y:M α):M α:=@O8 (λ _=>M α) y x b
def LI{α:Type}(z:α)(f:PV->α->α)(g:C0->PV->α->α)(l:PV):α:=
 @P_ (λ _=>α) z (λ _=>z) (λ _=>z) (λ _=>z) (λ _=>z) z (λ a _ _ ih=>f a ih) (λ k v _ _ ih=>g k v ih) (λ _ _=>z) (λ _=>z) (λ _=>z) (λ _=>z) (λ _=>z) (λ _=>z) l
def H4(x:C0)(l:PV):Q1 PV:=LI B2 (λ _ _=>B2) (λ k v ih=>@O8 (λ _=>Q1 PV) ih (E0 v) (Y1 k x)) l
def z5(x:C0)(w:PV):PV->PV
 |.kv k v r=>bif Y1 k x then .kv k w r else .kv k v (z5 x w r)
 |_=> .kv x w .B0
def jE(m:PV)(l:PV):PV:=LI m (λ a ih=> .A0 a ih) (λ _ _ ih=>ih) l
def nR(a:PV)(l:PV):PV:=jE (.A0 a .B0) l
def Y5(l:PV):C0:=LI 0 (λ _ ih=>HH ih) (λ _ _ ih=>HH ih) l
def YJ(l:PV):C0->Q1 PV:=LI (λ _=>B2) (λ a ih i=>@VR (λ _=>Q1 PV) (E0 a) (λ j _=>ih j) i) (λ _ _ _ _=>B2) l
def rU:PV->C0->PV->Q1 PV
 |.A0 _ r,0,w=>E0 (.A0 w r)
 |.A0 a r,n+1,w=>(rU r n w).Y4 (.A0 a)
 |_,_,_=>B2
def Dp(l:PV):C0->PV
 |0=>l
 |n+1=>match l with|.A0 _ r=>Dp r n|l=>l
def Ep(l:PV):C0->PV:=LI (λ _=> .B0) (λ a ih i=>@VR (λ _=>PV) .B0 (λ j _=> .A0 a (ih j)) i) (λ _ _ _ _=> .B0) l
def QO(l:PV):PV->PV:=LI (λ M3=>M3) (λ a ih M3=>ih (.A0 a M3)) (λ _ _ _ M3=>M3) l
def HA(l:PV):I1:=LI I0 (λ _ _=>R0) (λ _ _ _=>R0) l
def H5(l:PV):I1:=O9 (Y5 l) 60
def Ke(l:PV):Q1 (PV×PV):=match QO l .B0 with|.A0 a r=>E0 (QO r .B0,a)|_=>B2
def sX:C0:=1383035510432989519
def sU:C0:=1540846778513995950916017
def tX:C0:=1716678967627246444591422571031
def tU:C0:=1383040475425210701
def uU:C0:=1383035510421848381
def ng:C0:=1241311281328
def nX:C0:=1114202
def nS:C0:=1114197
def Mn(h:C0):Q1 C0:=bif Y1 h tU then E0 3 else bif Y1 h uU then E0 4 else bif Y1 h sX then E0 0 else bif Y1 h tX then E0 2 else bif Y1 h sU then E0 1 else B2
def rL(d:C0):C0:=bif Y1 d 0 then 7 else 31
def mC(m k:C0):I1:=Y1 (lL (NH m (MK 2 k)) 2) 1
def mkT(k j:C0):TI:=bif Y1 k 3 then .W8 j else .X8 j
def zZ(i k d:C0):M S7:=bif X6 k 3 then(λ σ=> .x8 () (lN i (.eA k)))
 else λ σ=> .x8 () ((eU (.OC (rL (yZ d)) (yZ d))).XJ i (mkT k D6))
def uX(i k m d:C0):M I1:=
 bif mC m k then λ σ=>(bif dy i k then λ σ=> .x8 R0 (lN i (.OC (MH m (MK 2 k)) d))else bif Y1 m (MK 2 k)then F1 (zZ i k d) (λ _=>W1 I0)
  else λ σ=> .YH 2 (λ x=>bif Y1 x 0 then F1 (zZ i k d) (λ _=>W1 I0) σ else .x8 R0 (lN i (.OC (MH m (MK 2 k)) d)))) σ
 else W1 R0
def Na(i k:C0):TI->M I1
 |.eA j=>W1 (Y1 j k)
 |.W8 _=>W1 (Y1 3 k)
 |.X8 _=>W1 (Y1 4 k)
 |.al _=>F2 200
 |.OC m d=>bif Y1 d 0 then(bif X6 k 3 then uX i k m d else W1 R0)else uX i k m d
def Oa(i h:C0):M I1:=@ZW C0 (λ _=>M I1) (W1 R0) (λ k σ=>Na (G7 i) k (V8 (G7 i)) σ) (Mn h)
def IS(k:C0):PV:=bif Y1 k 0 then .A0 (.Y0 sX) (.A0 (.Y0 ng) .B0)else bif Y1 k 1 then .A0 (.Y0 sU) .B0 else .A0 (.Y0 tX) (.A0 (.Y0 nX) .B0)
def x00(q:PV):PV:=.A0 (.Y0 tU) (.A0 q .B0)
def Gp(q:PV):PV:=.A0 (.Y0 uU) (.A0 (.Y0 nS) (.A0 (.Q0 .B0) (.A0 (.Q0 (.A0 q .B0)) .B0)))
def nN:TI->Q1 PV
 |.eA k=>E0 (IS k)
 |.W8 j=>E0 (x00 (.ty j))
 |.X8 j=>E0 (Gp (.ty j))
 |_=>B2
def Pa(a b:A2):I1:=match a,b with
 |.N4 m,.N4 n=>Y1 m n
 |.KB m,.KB n=>Y1 m n
 |_,_=>R0
def Og(a b:A2):I1:=match a,b with
 |.N4 m,.N4 n=>X6 m n
 |.N4 _,.KB _=>R0
 |.KB _,.N4 _=>I0
 |.KB m,.KB n=>X6 n m
def eB0:PV->M I1
 |.H0=>W1 I0|.N3 _=>W1 R0|.j0 _=>W1 R0|.Y0 _=>W1 R0|.Q0 _=>W1 R0|.ty _=>W1 R0|_=>F2 201
def eqBool(b:I1):PV->M I1
 |.H0=>W1 R0|.N3 c=>W1 (@O8 (λ _=>I1) (@O8 (λ _=>I1) I0 R0 c) c b)|.Y0 _=>W1 R0|.Q0 _=>W1 R0|.ty _=>W1 R0|_=>F2 202
def fB0(i:A2):PV->M I1
 |.H0=>W1 R0|.j0 j=>W1 (Pa i j)|.Y0 _=>W1 R0|.Q0 _=>W1 R0|.ty _=>W1 R0|_=>F2 203
def eqStr(n:C0):PV->M I1
 |.H0=>W1 R0|.N3 _=>W1 R0|.j0 _=>W1 R0|.Y0 m=>W1 (Y1 n m)|.Q0 _=>W1 R0|.ty _=>W1 R0
 |.lC i=>Oa i n
 |_=>F2 204
def hK(i k:C0):M I1:=λ σ=>Na i k (V8 i) σ
def y00(i j:C0)(l:P0 C0):M I1:=@cL C0 (λ _=>M I1) (F2 220) (λ k _ ih=>F1 (hK i k) (λ t=>@O8 (λ _=>M I1) ih (hK j k) t)) l
def Hp(i j:C0):M I1:=λ σ=>bif Y1 (G7 i) (G7 j)then W1 I0 σ else y00 (G7 i) (G7 j) [3,4,0,2,1] σ
def gB0(i:C0):PV->M I1
 |.Y0 m=>Oa i m|.lC j=>Hp i j|_=>F2 205
section
variable(ih:PV->PV->M Bool)
def hB0:PV->M I1
 |.B0=>W1 I0|.A0 _ _=>W1 R0|_=>F2 206
def iB0(a:PV)(PA:PV->M I1):PV->M I1
 |.B0=>W1 R0|.A0 b r=>F1 (ih a b) (λ t=>@O8 (λ _=>M I1) (W1 R0) (PA r) t)|_=>F2 207
def pg(l:PV):PV->M I1:=LI (λ m=>hB0 m) (λ a PA=>iB0 ih a PA) (λ _ _ _ _=>F2 208) l
def Ip(i:C0)(l:PV):M I1:=λ σ=>@ZW PV (λ _=>M I1) (F2 209) (λ c=>pg ih c l) (nN (V8 (G7 i))) σ
def vU(i:C0)(l:PV):M I1:=match l with
 |.A0 (.Y0 h) _=>F1 (Oa i h) (λ t=>@O8 (λ _=>M I1) (W1 R0) (Ip ih i l) t)
 |.B0=>W1 R0
 |_=>F2 210
def Jp(i j m d m' d':C0):M I1:=bif Y1 (OP m m') 0 then W1 R0 else λ σ=>
 .YH 2 (λ x=>bif Y1 x 0 then .x8 I0 ((lN j (.OC (OP m m') (bif O9 d d' then d else d'))).XJ i (.al j))else .x8 R0 (fy i j))
def A10(i j:C0)(x y:TI):M I1:=match x with
 |.OC m d=>match y with
  |.OC m' d'=>Jp i j m d m' d'
  |y=>@ZW PV (λ _=>M I1) (F2 211) (λ c=>vU ih i c) (nN y)
 |x=>@ZW PV (λ _=>M I1) (F2 212) (λ c=>vU ih j c) (nN x)
def Kp(i j:C0):M I1:=λ σ=>bif Y1 (G7 i) (G7 j)then W1 I0 σ else bif JA0 (G7 i) (G7 j)then .x8 R0 (fy (G7 i) (G7 j))
 else A10 ih (G7 i) (G7 j) (V8 (G7 i)) (V8 (G7 j)) σ
def jB0(l:PV):PV->M I1
 |.H0=>W1 R0|.N3 _=>W1 R0|.j0 _=>W1 R0|.Y0 _=>W1 R0|.Q0 m=>pg ih l m|.ty j=>vU ih j l|_=>F2 213
def eqTy(i:C0):PV->M I1
 |.H0=>W1 R0|.N3 _=>W1 R0|.j0 _=>W1 R0|.Y0 _=>W1 R0|.Q0 m=>vU ih i m|.ty j=>Kp ih i j|_=>F2 214
def B10(a:PV):PV->M I1:=match a with
 |.H0=>eB0
 |.N3 b=>eqBool b
 |.j0 i=>fB0 i
 |.Y0 n=>eqStr n
 |.Q0 l=>jB0 ih l
 |.ty i=>eqTy ih i
 |.lC i=>gB0 i
 |_=>λ _=>F2 215
end
def eqN(n:C0):PV->PV->M I1:=@VR (λ _=>PV->PV->M I1) (λ _ _=>F2 216) (λ _ ih=>B10 ih) n
def ij(a b:PV):M I1:=eqN 14 a b
def eqL(l m:PV):M I1:=pg ij l m
def vX(a b:C0):C0:=bif Y1 a 0 then 0 else bif Y1 b 0 then 0 else bif O9 a b then b else a
def Qa(a:C0):C0:=bif Y1 a 0 then 0 else HH a
def OD(p:PV):C0:=@P_ (λ _=>C0) 1 (λ _=>1) (λ _=>1) (λ _=>1) (λ _=>0) 1 (λ _ _ a r=>vX a r) (λ _ _ _ _ _=>0) (λ _ l=>Qa l) (λ _=>0) (λ _=>0) (λ _=>7) (λ _=>16) (λ _=>1) p
def RO(p:PV):I1:=bif Y1 (OD p) 0 then R0 else O9 (OD p) 60
def kA{α:Type}(w:C0)(b:I1)(m:M α):M α:=@O8 (λ _=>M α) (F2 w) m b
def eqD(a b:PV):M I1:=kA 230 (RO a) (kA 231 (RO b) (ij a b))
def C10(a b:PV):M I1:=kA 232 (RO a) (kA 233 (RO b) (eqL a b))
def D10:AO->AO->M I1
 |.M1 x,.M1 y=>bif HA x then W1 (HA y)else bif HA y then W1 R0 else C10 x y
 |.H2 x,.H2 y=>bif HA x then W1 (HA y)else bif HA y then W1 R0 else F2 217
 |_,_=>F2 218
def Sa:AO->PV->M I1
 |.M1 _,.Y0 _=>W1 R0
 |.M1 _,.Q0 _=>W1 R0
 |_,_=>F2 219
def Lp(a b:PV):M I1:=match a with
 |.J0 i=>match b with
  |.J0 j=>λ s=>D10 (K8 i) (K8 j) s
  |b=>λ s=>Sa (K8 i) b s
 |a=>match b with
  |.J0 j=>λ s=>Sa (K8 j) a s
  |b=>eqD a b
def Ua:AO->Q1 I1
 |.M1 l=>bif H5 l then E0 (!(HA l))else B2
 |.H2 l=>bif H5 l then E0 (!(HA l))else B2
 |_=>B2
def iC:PV->M I1
 |.H0=>W1 R0
 |.N3 b=>W1 b
 |.Q0 l=>bif H5 l then W1 (!(HA l))else F2 8
 |.J0 i=>λ s=>w5 7 (Ua (K8 i)) s
 |_=>F2 8
def Mp(a:PV)(l:PV):M I1:=LI (W1 R0) (λ b ih=>F1 (ij b a) (λ t=>@O8 (λ _=>M I1) ih (W1 I0) t)) (λ _ _ _=>F2 9) l
def inO(a:PV):AO->M I1
 |.M1 l=>kA 234 (RO l) (kA 235 (RO a) (Mp a l))
 |.H2 l=>match a with|.Y0 n=>@ZW PV (λ _=>M I1) (W1 R0) (λ _=>W1 I0) (H4 n l)|_=>F2 10
 |_=>F2 10
def Np(a b:PV):M I1:=match b with
 |.Q0 l=>kA 236 (RO l) (kA 237 (RO a) (Mp a l))
 |.J0 i=>λ s=>inO a (K8 i) s
 |_=>F2 11
def aE:PV->I1
 |.H0=>I0
 |_=>R0
def kB0(op:bG)(a b:A2):Q1 I1:=match op with
 |.gt=>E0 (Og b a)
 |.lt=>E0 (Og a b)
 |.ge=>E0 (!(Og a b))
 |_=>B2
def qg(op:bG)(a b:PV):M I1:=match a with
 |.j0 i=>match b with|.j0 j=>w5 12 (kB0 op i j)|_=>F2 13
 |_=>F2 14
def M.fW0(m:M I1):M I1:=F1 m λ b=>W1 (!b)
def S1(op:bG)(a b:PV):M I1:=
 @bG.W9 (λ _=>M I1) op (Lp a b) (M.fW0 (Lp a b)) (Np a b) (M.fW0 (Np a b)) (W1 (aE a)) (W1 (!(aE a))) (qg .gt a b) (qg .lt a b) (qg .ge a b)
def PM:PV->Q1 C0
 |.Y0 s=>E0 (We s)
 |.AG n=>E0 n
 |_=>B2
def Pp(x y:C0):Q1 PV:=bif O9 (x+y) 100000 then E0 (.AG (x+y))else B2
def Qp(a b:PV):Q1 PV:=match PM a with
 |E0 x=>match PM b with|E0 y=>Pp x y|B2=>B2
 |B2=>B2
def Rp:AO->AO->Q1 PV
 |.M1 x,.M1 y=>bif H5 x then bif H5 y then E0 (jE y x)else B2 else B2
 |_,_=>B2
def E10(a b:PV):M PV:=match a with
 |.j0 i=>match b with|.j0 j=>W1 (.j0 (i+j))|_=>F2 15
 |.Q0 x=>match b with|.Q0 y=>bif H5 x then bif H5 y then W1 (.Q0 (jE y x))else F2 16 else F2 16|_=>F2 16
 |.J0 i=>match b with|.J0 j=>λ s=>F1 (w5 17 (Rp (K8 i) (K8 j))) (λ l=>Q9 (.M1 l)) s|_=>F2 17
 |a=>w5 18 (Qp a b)
def binop(op:gK)(a b:PV):M PV:=match op with
 |.n6=>E10 a b
 |.w0=>match a with
  |.j0 i=>match b with|.j0 j=>W1 (.j0 (i-j))|_=>F2 19
  |_=>F2 19
 |.Ba=>match a with
  |.Q0 l=>match b with|.j0 (.N4 0)=>W1 (.Q0 .B0)|_=>F2 20
  |_=>F2 20
def Va(l:PV):Q1 C0:=bif H5 l then E0 (Y5 l)else B2
def F10:AO->Q1 C0
 |.M1 l=>Va l
 |.H2 l=>Va l
 |_=>B2
def G10:PV->M PV
 |.Q0 l=>F1 (w5 21 (Va l)) λ n=>W1 (.j0 (.N4 n))
 |.J0 i=>λ s=>F1 (w5 21 (F10 (K8 i))) (λ n=>W1 (.j0 (.N4 n))) s
 |_=>F2 22
def gy:PV->Q1 I1
 |.Q0 _=>E0 I0
 |.ty _=>E0 I0
 |.j0 _=>E0 R0
 |.Y0 _=>E0 R0
 |.H0=>E0 R0
 |.N3 _=>E0 R0
 |_=>B2
def rg:AO->Q1 C0
 |.H2 l=>match l with
  |.kv k _ .B0=>E0 k
  |_=>B2
 |_=>B2
def iy(i:A2):I1:=match i with|.N4 n=>X6 n 10|_=>R0
def b1(op:B1)(v:PV):M PV:=match op with
 |.Y5=>G10 v
 |.ig=>F1 (w5 23 (gy v)) λ b=>W1 (.N3 b)
 |.Mm=>match v with|.J0 i=>λ s=>F1 (w5 24 (rg (K8 i))) (λ k=>Q9 (.M1 (.A0 (.Y0 k) .B0))) s|_=>F2 24
 |.Y0=>match v with|.j0 i=>bif iy i then W1 (.AG 1)else F2 25|_=>F2 25
def JS(l:PV)(i:A2):Q1 PV:=match i with
 |.N4 n=>bif O9 n 60 then YJ l n else B2
 |.KB n=>bif O9 n 60 then YJ (QO l .B0) n else B2
def Sp(i:PV):AO->Q1 PV
 |.M1 l=>match i with|.j0 k=>JS l k|_=>B2
 |.H2 l=>match i with|.Y0 k=>H4 k l|_=>B2
 |_=>B2
def xL(o i:PV):M PV:=match o with
 |.Q0 l=>match i with|.j0 k=>w5 26 (JS l k)|_=>F2 26
 |.J0 j=>λ s=>w5 27 (Sp i (K8 j)) s
 |.ty j=>match i with
  |.j0 (.N4 0)=>W1 (.lC j)
  |.j0 k=>λ σ=>w5 28 ((nN (V8 (G7 j))).R6 λ c=>JS c k) σ
  |_=>F2 28
 |_=>F2 28
def Tp(i w:PV):AO->Q1 AO
 |.M1 l=>match i with|.j0 (.N4 k)=>bif H5 l then(rU l k w).Y4 .M1 else B2|_=>B2
 |.H2 l=>match i with|.Y0 k=>bif H5 l then E0 (.H2 (z5 k w l))else B2|_=>B2
 |_=>B2
section
variable(FZ:Nat->Bool)
def GE(i:C0)(o:AO):M S7:=bif FZ i then F2 29 else qW i o
def xc(o i w:PV):M S7:=match o with
 |.J0 j=>λ s=>F1 (w5 30 (Tp i w (K8 j))) (λ x=>GE FZ j x) s
 |_=>F2 30
def Wa(n:C0)(d:C0):PV->Q1 C0
 |.H0=>E0 d
 |.j0 (.N4 k)=>E0 (bif O9 k n then k else n)
 |.j0 (.KB k)=>E0 (n-(k+1))
 |_=>B2
def z_(l:PV)(a b:C0):PV:=Ep (Dp l a) (b-a)
def ug(l lo hi:PV):Q1 PV:=bif H5 l then(match Wa (Y5 l) 0 lo with
 |E0 a=>match Wa (Y5 l) (Y5 l) hi with|E0 b=>E0 (z_ l a b)|B2=>B2
 |B2=>B2)else B2
def H10(lo hi:PV):AO->Q1 PV
 |.M1 l=>ug l lo hi
 |_=>B2
def dE(o lo hi:PV):M PV:=match o with
 |.Q0 l=>F1 (w5 31 (ug l lo hi)) λ r=>W1 (.Q0 r)
 |.J0 j=>λ s=>F1 (w5 32 (H10 lo hi (K8 j))) (λ r=>Q9 (.M1 r)) s
 |_=>F2 32
def I10:AO->Q1 PV
 |.M1 l=>bif H5 l then E0 l else B2
 |_=>B2
def uP(o:PV):M PV:=match o with
 |.J0 j=>λ s=>F1 (w5 33 (I10 (K8 j))) (λ r=>Q9 (.M1 (QO r .B0))) s
 |_=>F2 33
structure Cl where
 meths:PV
 cq:I1
 vZ:C0
inductive Pm where
 |B0
 |N1(x:C0)(r:Pm)
 |PN(x:C0)(d:PV)(r:Pm)
@[reducible] def Pm.JJ(x:Pm):C0:=@Pm.W9 (λ _=>C0) x 0 (λ _ _=>1) (λ _ _ _=>2)
def Pm.R6(p:Pm):PV->Q1 PV:=
 @Pm.GR (λ _=>PV->Q1 PV)
  (λ l=>match l with|.B0=>E0 .B0|_=>B2)
  (λ x _ ih l=>match l with|.A0 a r=>(ih r).Y4 (.kv x a)|_=>B2)
  (λ x d _ ih l=>match l with|.A0 a r=>(ih r).Y4 (.kv x a)|.B0=>(ih .B0).Y4 (.kv x d)|_=>B2) p
set_option genInjectivity true in
inductive W3 where
 |no
 |fn(p:Pm)(b:S)
 |c7(k:C0)(p:Pm)(b:S)
 |O2(c:Cl)
@[reducible] def W3.JJ(x:W3):C0:=@iZ (λ _=>C0) x 0 (λ _ _=>1) (λ _ _ _=>2) (λ _=>3)
structure jI where
 j7:C0->W3
 lA:C0->Pm
 J10:C0->C
 c7:C0->PV->K1->Q1 (I7 PV)
variable(T:Tab)
def DQ(c:C0):Q1 Cl:=match PF c with|.O2 k=>bif MI then B2 else E0 k|_=>B2
def wX:C0:=1716671264171921783646689952286
def Up:AO->PV
 |.V6 l=>l
 |_=> .B0
def Vp(s:K1):AO->PV
 |.u7 _ d=>Up (K8 d)
 |.J8 _ _ d=>Up (K8 d)
 |_=> .B0
def xX(c:C0)(x:C0):Q1 C0:=match DQ T c with
 |E0 k=>match H4 x NI with|E0 (.Z0 a)=>E0 a|_=>B2
 |B2=>B2
def K10(x:C0)(o:PV):AO->M PV
 |.u7 c _=>bif Y1 x wX then F1 (w5 34 (xX T c x)) (λ a=>Q9 (.bm a o))else F2 34
 |_=>F2 34
def SO(c x:C0):I1:=match DQ T c with|E0 k=>(match H4 x NI with|B2=>I0|_=>R0)|B2=>R0
def L10(c x:C0)(o:PV):AO->M PV
 |.V6 l=>match H4 x l with
  |E0 v=>bif SO T c x then W1 v else F2 35
  |B2=>K10 T x o (.u7 c 0)
 |_=>F2 35
def M10(x:C0)(o:PV):AO->M PV
 |.u7 c d=>λ s=>L10 T c x o (K8 d) s
 |_=>F2 35
def pt(o:PV)(x:C0):M PV:=match o with
 |.J0 i=>λ s=>M10 T x o (K8 i) s
 |_=>F2 35
def N10(c d x:C0)(w:PV):AO->M S7
 |.V6 l=>bif SO T c x then(bif H5 l then GE FZ d (.V6 (z5 x w l))else F2 36)else F2 36
 |_=>F2 36
def O10(x:C0)(w:PV):AO->M S7
 |.u7 c d=>λ s=>N10 FZ T c d x w (K8 d) s
 |_=>F2 36
def Fr(o:PV)(x:C0)(w:PV):M S7:=match o with
 |.J0 i=>λ s=>O10 FZ T x w (K8 i) s
 |_=>F2 36
def nA:C0:=1114179
def Xp:C0:=1241313509495
def vg:C0->C0->P0 C0
 |0,_=>[]
 |k+1,n=>bif Y1 n 1 then[]else(n%1114113-1)::vg k (n/1114113)
def dc(n:C0):P0 C0:=vg 200 n
def wg(a s b:C0):C0:=Z7 (dc a++(dc s++dc b))
def KS(a:C0):I1:=O9 (We a) 3900
def i_(p:PV):Q1 PV:=match p with
 |.Q0 l=>E0 l
 |_=>B2
def nH(p:PV):Q1 (PV×PV):=match p with
 |.A0 a r=>E0 (a,r)
 |_=>B2
def LS(p:PV):Q1 C0:=match p with
 |.Y0 n=>E0 n
 |_=>B2
def QM(p:PV):I1:=match p with
 |.B0=>I0
 |_=>R0
def P10(s:C0)(l:PV):Q1 C0:=
 (nH l).R6 λ x=>(LS x.1).R6 λ a=>bif KS a then bif KS s then
  (bif QM x.2 then E0 a else(nH x.2).R6 λ y=>(LS y.1).R6 λ b=>bif QM y.2 then bif KS b then E0 (wg a s b)else B2 else B2)else B2 else B2
def zX(vP:C0)(l:PV):Q1 C0:=LI (E0 0) (λ a ih=>match PM a with|E0 n=>ih.Y4 λ m=>n+vP+m|B2=>B2) (λ _ _ _=>B2) l
def Yp(s:C0)(l:PV):Q1 PV:=match P10 s l with
 |E0 n=>E0 (.Y0 n)
 |B2=>match zX (We s) l with|E0 n=>Pp n 0|B2=>B2
def Q10:AO->Q1 PV
 |.M1 l=>bif H5 l then E0 l else B2
 |_=>B2
def G5(v:PV):M PV:=match v with
 |.Q0 l=>bif H5 l then W1 l else F2 37
 |.J0 i=>λ s=>w5 37 (Q10 (K8 i)) s
 |_=>F2 37
def xg(m:Mt)(n:C0)(L1:PV):M PV:=match m with
 |.mP=>match L1 with
  |.A0 v .B0=>F1 (G5 v) λ l=>w5 38 (Yp n l)
  |_=>F2 38
 |.fR=>match L1 with
  |.A0 (.Y0 k) .B0=>bif Y1 n nA then bif Y1 k Xp then Q9 (.M1 (.A0 (.Y0 nA) .B0))else F2 39 else F2 39
  |_=>F2 39
 |_=>F2 39
def Za(m:Mt)(i:C0)(l L1:PV):M PV:=match m with
 |.SI=>match L1 with
  |.A0 v .B0=>bif H5 l then F1 (GE FZ i (.M1 (nR v l))) λ _=>W1 OH else F2 40
  |_=>F2 40
 |.bK=>match L1 with
  |.B0=>match bif H5 l then Ke l else B2 with
   |E0 p=>F1 (GE FZ i (.M1 p.1)) λ _=>W1 p.2
   |B2=>F2 41
  |_=>F2 41
 |.dN=>match L1 with
  |.A0 v .B0=>F1 (G5 v) λ r=>bif H5 l then bif H5 r then F1 (GE FZ i (.M1 (jE r l))) λ _=>W1 OH else F2 42 else F2 42
  |_=>F2 42
 |_=>F2 43
def ZJ(d:PV)(l:PV):PV:=LI (λ d=>d) (λ _ ih d=>ih d) (λ k v ih d=>ih (z5 k v d)) l d
def aa(m:Mt)(i:C0)(l L1:PV):M PV:=match m with
 |.l9=>match L1 with
  |.A0 (.Y0 k) (.A0 d .B0)=>W1 ((H4 k l).gI d)
  |_=>F2 44
 |.CU=>match L1 with
  |.A0 (.Y0 k) (.A0 d .B0)=>bif H5 l then(match H4 k l with
   |E0 v=>W1 v
   |B2=>F1 (GE FZ i (.H2 (z5 k d l))) λ _=>W1 d)else F2 45
  |_=>F2 45
 |.GF=>match L1 with
  |.A0 (.J0 j) .B0=>bif Y1 i j then F2 46 else λ s=>(match K8 j with
   |.H2 r=>bif H5 l then bif H5 r then F1 (GE FZ i (.H2 (ZJ l r))) λ _=>W1 OH else F2 46 else F2 46
   |_=>F2 46) s
  |_=>F2 46
 |_=>F2 47
inductive It where
 |V5(l:PV)
 |zF(i k:C0)
 |dG(a n:C0)
 |r8(a b:It)
 |JE(n:C0)(a:It)
@[reducible] def It.JJ(x:It):C0:=@JP (λ _=>C0) x (λ _=>0) (λ _ _=>1) (λ _ _=>2) (λ _ _=>3) (λ _ _=>4)
def aJ(v:PV):M It:=match v with
 |.Q0 l=>W1 (.V5 l)
 |.J0 i=>λ s=>(match K8 i with|.M1 _=>W1 (nW i 0)|_=>F2 61) s
 |_=>F2 61
def It.W4:It->M (Q1 (PV×It))
 |.V5 l=>match l with
  |.A0 a r=>W1 (E0 (a,.V5 r))
  |.B0=>W1 B2
  |_=>F2 62
 |.zF i k=>λ s=>(match K8 i with
  |.M1 l=>match YJ l k with
   |E0 a=>W1 (E0 (a,nW i (k+1)))
   |B2=>W1 B2
  |_=>F2 63) s
 |.dG a n=>bif X6 a n then W1 (E0 (.j0 (.N4 a),.dG (a+1) n))else W1 B2
 |.r8 a b=>F1 sP λ x=>match x with
  |E0 p=>F1 b.W4 λ y=>match y with
   |E0 q=>W1 (E0 (.Q0 (.A0 p.1 (.A0 q.1 .B0)),.r8 p.2 q.2))
   |B2=>W1 B2
  |B2=>W1 B2
 |.JE n a=>F1 sP λ x=>match x with
  |E0 p=>W1 (E0 (.Q0 (.A0 (.j0 (.N4 n)) (.A0 p.1 .B0)),.JE (n+1) p.2))
  |B2=>W1 B2
def Zp(t:C):I1:=match t with
 |.Q0 _=>I0
 |_=>R0
def wU:It->C->I1
 |.r8 _ _,t=>Zp t
 |.JE _ _,t=>Zp t
 |_,_=>I0
inductive Fl where
 |W4(e:PV)
 |ZB(e:PV)
 |YB(e:PV)
 |U1(v e:PV)
@[reducible] def Fl.JJ(x:Fl):C0:=@mf (λ _=>C0) x (λ _=>0) (λ _=>1) (λ _=>2) (λ _ _=>3)
structure B5 where
 A6:C->PV->M PV
 vD:S->PV->M Fl
 K2:PV->PV->M PV
 qp:C->It->S->PV->M Fl
 mv:C->S->PV->M Fl
 vp:C->C->It->C0->PV->M S7
def yg(ih:B5)(p:Pm)(b:S)(L1:PV):M PV:=
 F1 (w5 48 (k00 L1)) λ O0=>F1 (ZC b (ZJ .B0 O0)) λ f=>match f with
  |.U1 v _=>W1 v
  |.W4 _=>W1 .H0
  |_=>F2 49
def eG:C0:=2130808652919413082379463711048103649149677
def jK:C0:=1540857841636270507557323
def Ah(L1:PV):Q1 PV:=(nH L1).R6 λ x=>bif QM x.2 then E0 (.kv eG x.1 (.kv jK (.j0 (.N4 0)) .B0))
 else(nH x.2).R6 λ y=>bif QM y.2 then E0 (.kv eG x.1 (.kv jK y.1 .B0))else B2
def jy(d:PV)(f:C0->AO):M PV:=F1 (Q9 (.V6 d)) λ r=>match r with
 |.J0 i=>Q9 (f i)
 |_=>F2 50
def ja(cx:I1)(c:C0)(d:PV):M PV:=F1 (Q9 .K4) λ _=>jy d (.J8 cx c)
def zp(v:PV):M S7:=match v with|.H0=>W1 ()|_=>F2 51
def qa(ih:B5)(a:C0)(k:Cl)(L1:PV):M PV:=
 bif MI then F1 (w5 52 (Ah L1)) λ d=>ja R0 a d
 else F1 (jy .B0 (.u7 a)) λ o=>F1 (Nf (.Z0 VP) (.A0 o L1)) λ v=>F1 (zp v) λ _=>W1 o
def ua(ih:B5)(a:C0)(L1:PV):M PV:=match PF a with
 |.fn p b=>yg ih p b L1
 |.c7 k p b=>λ s=>match T.c7 k L1 s with
  |E0 o=>o
  |B2=>yg ih p b L1 s
 |.O2 k=>qa ih a k L1
 |.no=>F2 53
def Bh(L1:PV):M PV:=match L1 with
 |.A0 _ (.A0 v (.A0 _ .B0))=>xL v (.j0 (.N4 2))
 |_=>F2 54
def lB0(ih:B5)(f L1:PV):M PV:=match f with
 |.Z0 a=>ua T ih a L1
 |.J0 i=>λ s=>(match K8 i with
  |.lA _=>Bh L1
  |_=>F2 54) s
 |_=>F2 55
def Aq:Mt->I1
 |.mP=>I0|.fR=>I0|_=>R0
def Bq:Mt->I1
 |.SI=>I0|.bK=>I0|.dN=>I0|_=>R0
def Cq:Mt->I1
 |.l9=>I0|.CU=>I0|.GF=>I0|_=>R0
def R10(x c:C0)(o:PV):AO->M (PV×PV)
 |.V6 l=>match H4 x l with
  |E0 g=>bif SO T c x then(bif aE g then F2 56 else W1 (g,.B0))else F2 56
  |B2=>F1 (w5 56 (xX T c x)) λ a=>W1 (.Z0 a,.A0 o .B0)
 |_=>F2 56
def S10(m:Mt)(x:C0)(o:PV):AO->M (PV×PV)
 |.M1 _=>bif Bq m then W1 (.H0,.B0)else F2 57
 |.H2 _=>bif Cq m then W1 (.H0,.B0)else F2 57
 |.u7 c d=>λ s=>R10 T x c o (K8 d) s
 |_=>F2 57
def T10(m:Mt)(x:C0)(o:PV):M (PV×PV):=match o with
 |.Y0 _=>bif Aq m then W1 (.H0,.B0)else F2 57
 |.J0 i=>λ s=>S10 T m x o (K8 i) s
 |_=>F2 57
def U10(m:Mt)(i:C0)(L1:PV):AO->M PV
 |.M1 l=>Za FZ m i l L1
 |.H2 l=>aa FZ m i l L1
 |_=>F2 57
def V10(m:Mt)(o L1:PV):M PV:=match o with
 |.Y0 n=>xg m n L1
 |.J0 i=>λ s=>U10 FZ m i L1 (K8 i) s
 |_=>F2 57
def W10(ih:B5)(m:Mt)(o L1:PV)(p:PV×PV):M PV:=match p.1 with
 |.H0=>V10 FZ m o L1
 |f=>Nf f (jE L1 p.2)
def LC(ih:B5)(e:C)(O0:PV):M I1:=F1 (P5 e O0) iC
def SM(ih:B5)(O0:PV):C->M PV
 |.B0=>W1 .B0
 |.A0 e r=>F1 (P5 e O0) λ v=>F1 (SM ih O0 r) λ vs=>W1 (.A0 v vs)
 |_=>F2 58
def Nm:PV->PV->Q1 PV
 |.B0,d=>E0 d
 |.A0 (.Y0 k) (.A0 v r),d=>Nm r (z5 k v d)
 |_,_=>B2
def AY(l:PV):Q1 (C0×PV):=match nH l with
 |E0 x=>match LS x.1 with
  |E0 k=>match nH x.2 with
   |E0 y=>bif QM y.2 then E0 (k,y.1)else B2
   |B2=>B2
  |B2=>B2
 |B2=>B2
def OI(l:PV):Q1 PV:=LI (E0 .B0) (λ a ih=>match i_ a with
 |E0 l=>match AY l with
  |E0 q=>ih.Y4 (.kv q.1 q.2)
  |B2=>B2
 |B2=>B2) (λ _ _ _=>B2) l
def MS(l:PV):PV:=ZJ .B0 l
def FQ(ih:B5)(O0:PV):C->M It
 |.S4 e=>F1 (P5 e O0) aJ
 |.iK a b=>F1 (P5 a O0) λ v=>F1 (P5 b O0) λ w=>F1 (aJ v) λ x=>F1 (aJ w) λ y=>W1 (.r8 x y)
 |.qX a=>F1 (P5 a O0) λ v=>F1 (aJ v) λ x=>W1 (.JE 0 x)
 |.Ma e=>F1 (P5 e O0) λ v=>match v with|.j0 (.N4 n)=>bif O9 n 60 then W1 (.dG 0 n)else F2 65|_=>F2 65
 |_=>F2 66
def Dh(l:PV):M PV:=F1 (w5 67 (OI l)) λ d=>Q9 (.H2 (MS d))
def gG(σ:K1):It->Q1 PV
 |.V5 l=>E0 l
 |.zF i k=>bif Y1 k 0 then(match AA i with|.M1 l=>E0 l|_=>B2)else B2
 |_=>B2
def kK(l:PV):PV->PV:=LI (λ _=> .B0) (λ a ih m=>match m with|.A0 b q=> .A0 (.Q0 (.A0 a (.A0 b .B0))) (ih q)|_=> .B0) (λ _ _ _ _=> .B0) l
def BY(l:PV):C0->PV:=LI (λ _=> .B0) (λ a ih n=> .A0 (.Q0 (.A0 (.j0 (.N4 n)) (.A0 a .B0))) (ih (HH n))) (λ _ _ _ _=> .B0) l
def Dq(n:C0):C0->PV:=@VR (λ _=>C0->PV) (λ _=> .B0) (λ _ ih a=> .A0 (.j0 (.N4 a)) (ih (HH a))) n
def Fq(a b:It):M PV:=λ σ=>F1 (w5 69 (gG σ a)) (λ l=>F1 (w5 69 (gG σ b)) λ m=>kA 69 (H5 l&&H5 m) (W1 (kK l m))) σ
def TM(k:Mk)(a:It):M PV:=match k with
 |.Q0=>(match a with
  |.JE n x=>λ σ=>F1 (w5 69 (gG σ x)) (λ l=>kA 69 (H5 l&&Y1 n 0) (W1 (.Q0 (BY l 0)))) σ
  |_=>F2 69)
 |.M1=>(match a with
  |.r8 x y=>F1 (Fq x y) λ l=>Q9 (.M1 l)
  |.dG a n=>kA 69 (Y1 a 0) (Q9 (.M1 (Dq n 0)))
  |_=>F2 69)
 |.H2=>(match a with
  |.r8 x y=>F1 (Fq x y) Dh
  |_=>F2 69)
def Gq(k:Mk)(v:PV):M PV:=match k with
 |.Q0=>F1 (G5 v) λ l=>W1 (.Q0 l)
 |.M1=>match v with
  |.J0 i=>λ s=>F1 (w5 68 (rg (K8 i))) (λ k=>Q9 (.M1 (.A0 (.Y0 k) .B0))) s
  |_=>F2 68
 |.H2=>match v with
  |.J0 i=>λ s=>(match K8 i with
   |.H2 l=>bif H5 l then Q9 (.H2 l)else F2 69
   |.M1 l=>bif H5 l then Dh l else F2 69
   |_=>F2 69) s
  |_=>F2 69
def eMk(ih:B5)(k:Mk)(it:C)(O0:PV):M PV:=match it with
 |.S4 e=>F1 (P5 e O0) (Gq k)
 |it=>F1 (FQ ih O0 it) (TM k)
def Hq(ih:B5)(f l:C)(O0:PV):M PV:=F1 (P5 f O0) λ fv=>F1 (SM ih O0 l) λ vs=>Nf fv vs
def X10(ih:B5)(m:Mt)(x:C0)(o l:C)(O0:PV):M PV:=F1 (P5 o O0) λ ov=>F1 (T10 T m x ov) λ p=>F1 (SM ih O0 l) λ vs=>W10 FZ ih m ov vs p
def Y10(ih:B5)(o i:C)(O0:PV):M PV:=F1 (P5 o O0) λ ov=>F1 (P5 i O0) λ iv=>xL ov iv
def mB0(ih:B5)(op:bG)(a b:C)(O0:PV):M PV:=F1 (P5 a O0) λ x=>F1 (P5 b O0) λ y=>F1 (S1 op x y) λ r=>W1 (.N3 r)
def nB0(ih:B5)(a b:C)(O0:PV):M PV:=F1 (P5 a O0) λ v=>F1 (iC v) λ t=>RI t (P5 b O0) (W1 v)
def eOr(ih:B5)(a b:C)(O0:PV):M PV:=F1 (P5 a O0) λ v=>F1 (iC v) λ t=>RI t (W1 v) (P5 b O0)
def Z10(ih:B5)(op:gK)(a b:C)(O0:PV):M PV:=F1 (P5 a O0) λ x=>F1 (P5 b O0) λ y=>binop op x y
def a10(ih:B5)(o lo hi:C)(O0:PV):M PV:=F1 (P5 o O0) λ ov=>F1 (P5 lo O0) λ a=>F1 (P5 hi O0) λ b=>dE ov a b
def CY:PV->Q1 C0
 |.J0 i=>E0 i
 |_=>B2
def Eh(i:C0)(d:PV):AO->M S7
 |.H2 l=>bif HA l then qW i (.H2 d)else F2 70
 |_=>F2 70
def Iq(i:C0)(d:PV):M S7:=λ s=>Eh i d (K8 i) s
def b10(ih:B5)(l:C)(O0:PV):M PV:=F1 (Q9 (.H2 .B0)) λ r=>F1 (w5 70 (CY r)) λ i=>F1 (SM ih O0 l) λ vs=>F1 (w5 70 (Nm vs .B0)) λ d=>F1 (Iq i d) λ _=>W1 r
def xU(z6 t:C):C:=match z6 with
 |.B0=>t
 |_=> .M2
def Jq(ih:B5)(X5 P4 z6 it:C)(O0:PV):M PV:=F1 (FQ ih O0 it) λ a=>kA 71 (wU a P4) (F1 (Q9 (.M1 .B0)) λ r=>F1 (w5 71 (CY r)) λ i=>F1 (F_ X5 (xU z6 P4) a i O0) λ _=>W1 r)
def nE(ih:B5)(e:C)(O0:PV):M PV:=
 @C.GR (λ _=>M PV)
  (F2 72) (λ v=>W1 v) (λ x=>w5 73 (H4 x O0)) (F2 72) (λ _ _ _ _=>F2 72)
  (λ f l _ _=>Hq ih f l O0)
  (λ m x o l _ _=>X10 FZ T ih m x o l O0)
  (λ x o _=>F1 (P5 o O0) λ ov=>pt T ov x)
  (λ o i _ _=>Y10 ih o i O0)
  (λ op a b _ _=>mB0 ih op a b O0)
  (λ l _=>F1 (SM ih O0 l) λ vs=>W1 (.Q0 vs))
  (λ l _=>F1 (SM ih O0 l) λ vs=>Q9 (.M1 vs))
  (λ l _=>b10 ih l O0)
  (λ c a b _ _ _=>F1 (LC ih c O0) λ t=>RI t (P5 a O0) (P5 b O0))
  (λ a b _ _=>nB0 ih a b O0)
  (λ a b _ _=>eOr ih a b O0)
  (λ a _=>F1 (LC ih a O0) λ t=>W1 (.N3 (!t)))
  (λ op a b _ _=>Z10 ih op a b O0)
  (λ o lo hi _ _ _=>a10 ih o lo hi O0)
  (λ o _=>F1 (P5 o O0) uP)
  (λ op e _=>F1 (P5 e O0) (b1 op))
  (λ k it _=>eMk ih k it O0)
  (λ X5 P4 z6 it _ _ _ _=>Jq ih X5 P4 z6 it O0)
  (λ k=>Q9 (.lA k))
  (λ _ _=>F2 72) (λ _ _ _ _=>F2 72) (λ _ _=>F2 72) (λ _ _=>F2 72) e
def XC(ih:B5):C->PV->PV->M PV
 |.F0 x,v,O0=>W1 (z5 x v O0)
 |.Z1 x o,v,O0=>F1 (P5 o O0) λ ov=>F1 (Fr FZ T ov x v) λ _=>W1 O0
 |.w0 o i,v,O0=>F1 (P5 o O0) λ ov=>F1 (P5 i O0) λ iv=>F1 (xc FZ ov iv v) λ _=>W1 O0
 |.Q0 ts,v,O0=>match v with
  |.Q0 l=>Kq ts l O0
  |.J0 i=>λ s=>(match K8 i with|.M1 l=>Kq ts l O0|_=>F2 74) s
  |_=>F2 74
 |_,_,_=>F2 74
where Kq:C->PV->PV->M PV
 |.B0,.B0,O0=>W1 O0
 |.A0 t ts,.A0 v vs,O0=>match t with
  |.F0 x=>Kq ts vs (z5 x v O0)
  |_=>F2 75
 |_,_,_=>F2 75
def ya(o:AO):Q1 C0:=match o with|.J8 _ c _=>E0 c|_=>B2
def c10(o:AO):I1:=match o with|.J8 cx _ _=>!cx|_=>R0
def T9(c:C0):I1:=match PF c with|.O2 k=>MI|_=>R0
def Lq(i d a y:C0)(O0:PV):M Fl:=λ s=>
 F1 (w5 76 (H4 a (Vp s (K8 i)))) (λ m=>F1 (w5 76 (H4 y O0)) λ p=>F1 (ja I0 d (.kv eG m (.kv jK p .B0))) λ r=>F1 (w5 76 (CY r)) λ j=>pn j) s
def GQ(O0:PV):C->Q1 PV
 |.B0=>E0 .B0
 |.A0 (.F0 x) r=>match H4 x O0 with|E0 v=>(GQ O0 r).Y4 (.A0 v)|B2=>B2
 |.A0 (.u0 v) r=>(GQ O0 r).Y4 (.A0 v)
 |_=>B2
def i10(l:C)(O0:PV):M Fl:=F1 (w5 83 (GQ O0 l)) λ vs=>F1 (Q9 (.M1 vs)) λ v=>W1 (.U1 v O0)
def NU(i:C0)(O0:PV):S->M Fl
 |.B0=>pn i
 |.gU c v r=>λ s=>F1 (w5 77 (ya (K8 i))) (λ d=>kA 77 (T9 T c&&T9 T d) (bif Y1 c d then W1 (.U1 v O0)else NU i O0 r)) s
 |.jg c l r=>λ s=>F1 (w5 77 (ya (K8 i))) (λ d=>kA 77 (T9 T c&&T9 T d) (bif Y1 c d then i10 l O0 else NU i O0 r)) s
 |.lg c x d a y r=>λ s=>F1 (w5 77 (ya (K8 i))) (λ e=>kA 77 (T9 T c&&T9 T e&&T9 T d) (bif Y1 c e then kA 76 (c10 (K8 i)) (Lq i d a y O0)else NU i O0 r)) s
 |_=>F2 78
def j10(v:PV):M Fl:=match v with
 |.J0 i=>λ s=>(match K8 i with|.J8 _ c _=>kA 79 (T9 T c) (pn i)|_=>F2 79) s
 |_=>F2 79
def lK(ih:B5)(r:S)(f:Fl):M Fl:=match f with
 |.W4 e=>ZC r e
 |f=>W1 f
def l10(ih:B5)(t e:C)(r:S)(O0:PV):M Fl:=F1 (P5 e O0) λ v=>F1 (XC FZ T ih t v O0) λ R9=>ZC r R9
def sIf(ih:B5)(c:C)(a b r:S)(O0:PV):M Fl:=F1 (LC ih c O0) λ t=>F1 (RI t (ZC a O0) (ZC b O0)) λ f=>lK ih r f
def n10(ih:B5)(b h r:S)(O0:PV):M Fl:=F1 (λ s=>mx (λ i=>NU T i O0 h) (ZC b O0 s)) λ f=>lK ih r f
def Hh(ih:B5)(st:S)(O0:PV):M Fl:=
 @S.GR (λ _=>M Fl) (W1 (.W4 O0)) (F2 80)
  (λ t e r _=>l10 FZ T ih t e r O0)
  (λ e=>F1 (P5 e O0) λ v=>W1 (.U1 v O0))
  (λ c a b r _ _ _=>sIf ih c a b r O0)
  (λ e r _=>F1 (P5 e O0) λ _=>ZC r O0)
  (λ t it b r _ _=>F1 (FQ ih O0 it) λ a=>kA 84 (wU a t) (F1 (Xm t a b O0) λ f=>lK ih r f))
  (λ c b r _ _=>F1 (Me c b O0) λ f=>lK ih r f)
  (W1 (.ZB O0)) (W1 (.YB O0))
  (λ e=>F1 (P5 e O0) (j10 T))
  (λ b h r _ _ _=>n10 T ih b h r O0)
  (λ _ _ _ _=>F2 80) (λ _ _ _ _=>F2 80) (λ _ _ _ _ _ _ _=>F2 80)
  (λ x r _=>F1 (Q9 .K4) λ f=>ZC r (z5 x f O0)) st
def qe(k:PV->M Fl)(r:Fl):M Fl:=match r with
 |.W4 e=>k e
 |.YB e=>k e
 |.ZB e=>W1 (.W4 e)
 |.U1 v e=>W1 (.U1 v e)
def oB0(ih:B5)(P4:C)(a:It)(O4:S)(O0:PV):M Fl:=F1 sP λ o=>match o with
 |B2=>W1 (.W4 O0)
 |E0 p=>F1 (XC FZ T ih P4 p.1 O0) λ e1=>F1 (ZC O4 e1) λ f=>qe (Xm P4 p.2 O4) f
def JV0(ih:B5)(t:C)(O4:S)(O0:PV):M Fl:=F1 (LC ih t O0) λ c=>RI c (F1 (ZC O4 O0) λ f=>qe (Me t O4) f) (W1 (.W4 O0))
def Mq(r:C0)(x:PV):M S7:=λ s=>(match K8 r with
 |.M1 l=>bif H5 l then qW r (.M1 (nR x l))else F2 82
 |_=>F2 82) s
def pB0(ih:B5)(X5 P4:C)(a:It)(r:C0)(O0:PV):M S7:=F1 sP λ o=>match o with
 |B2=>W1 ()
 |E0 p=>F1 (XC FZ T ih P4 p.1 O0) λ e1=>F1 (P5 X5 e1) λ x=>F1 (Mq r x) λ _=>F_ X5 P4 p.2 r O0
def J6(ih:B5):B5 where
 A6:=nE FZ T ih
 vD:=Hh FZ T ih
 K2:=lB0 T ih
 qp:=oB0 FZ T ih
 mv:=JV0 ih
 vp:=pB0 FZ T ih
def i9:B5 where
 A6 _ _:=F2 0
 vD _ _:=F2 0
 K2 _ _:=F2 0
 qp _ _ _ _:=F2 0
 mv _ _ _:=F2 0
 vp _ _ _ _ _:=F2 0
def jD(n:C0):B5:=@VR (λ _=>B5) i9 (λ _ ih=>J6 FZ T ih) n
end
end
end
section
section
inductive Nq:PV->Q1 PV->Prop
 |no p:Nq p H0
 |E6 l:Nq (.Q0 l) (E0 l)
inductive Oq:PV->Q1 (PV×PV)->Prop
 |no p:Oq p H0
 |E6 a r:Oq (.A0 a r) (E0 (a,r))
inductive Pq:PV->Q1 C0->Prop
 |no p:Pq p H0
 |E6 n:Pq (.Y0 n) (E0 n)
theorem qB0(p:PV):Nq p (i_ p):=by cases p using P3<;>first|exact .E6 _|exact .no _
theorem rB0(p:PV):Oq p (nH p):=by cases p using P3<;>first|exact .E6 _ _|exact .no _
theorem sB0(p:PV):Pq p (LS p):=by cases p using P3<;>first|exact .E6 _|exact .no _
theorem o10{p l:PV}(h:i_ p=E0 l):p=.Q0 l:=by
 have q:=qB0 p;rw[h]at q;cases q;rfl
theorem HQ{p a r:PV}(h:nH p=E0 (a,r)):p=.A0 a r:=by
 have q:=rB0 p;rw[h]at q;cases q;rfl
theorem Ih{p:PV}{n:C0}(h:LS p=E0 n):p=.Y0 n:=by
 have q:=sB0 p;rw[h]at q;cases q;rfl
theorem yU{p:PV}(h:QM p=I0):p=.B0:=by cases p using P3<;>first|rfl|exact T3 h LG
theorem OS{α β:Type}{o:Q1 α}{f:α->Q1 β}{b:β}(h:o.R6 f=E0 b):∃a,o=E0 a/\f a=E0 b:=n9 h
theorem PC{α:Type}{c:I1}{o:Q1 α}{y:α}(h:(bif c then o else H0)=E0 y):c=I0/\o=E0 y:=by
 cases c using n7 with
 |I0=>exact⟨O,h⟩
 |R0=>contradiction
theorem EG{α:Type}{c:I1}{m:M α}{n:C0}{σ:K1}{P:α->K1->Prop}{X:C0->K1->Prop}(h:((bif c then m else F2 n) σ).P1 P X):c=I0/\(m σ).P1 P X:=by
 cases c using n7 with
 |I0=>exact⟨O,h⟩
 |R0=>exact I6.HB h
theorem r10{α:Type}{c:I1}{a b y:α}(h:(bif c then a else b)=y):(c=I0/\a=y)\/(c=R0/\b=y):=by
 cases c using n7 with
 |I0=>exact .S2 ⟨O,h⟩
 |R0=>exact .L2 ⟨O,h⟩
noncomputable abbrev y5:=P0 (C1×AR)
def D7(L:y5)(x:C1):I1:=match D9 x with|E0 .LL=>I0|_=>R0
def l7(L:y5)(x:C1):I1:=match D9 x with|E0 .F7=>I0|E0 .l6=>I0|E0 .i7=>I0|_=>R0
def w4(x:C1):I1:=!(x==("__debug__":C1))&&!(x==("__classdict__":C1))&&!(x==(".0":C1))&&!(Y1 (vc x) 0)
def x6(L:y5)(x:C1):I1:=match D9 x with|E0 .F7=>I0|E0 .l6=>I0|_=>R0
theorem Qq{L:y5}{x:C1}(h:D7 L x=I0):D9 x=E0 .LL:=by
 unfold D7 at h;generalize D9 x=k at h ⊢;cases k using Y9 with
 |H0=>contradiction
 |E0 k=>cases k using Kt<;>first|rfl|contradiction
theorem tB0{L:y5}{x:C1}(h:l7 L x=I0):D9 x=E0 .F7\/D9 x=E0 .l6\/D9 x=E0 .i7:=by
 unfold l7 at h;generalize D9 x=k at h ⊢;cases k using Y9 with
 |H0=>contradiction
 |E0 k=>cases k using Kt<;>first|exact .S2 O|exact .L2 (.S2 O)|exact .L2 (.L2 O)|contradiction
theorem uB0{L:y5}{x:C1}(h:x6 L x=I0):D9 x=E0 .F7\/D9 x=E0 .l6:=by
 unfold x6 at h;generalize D9 x=k at h ⊢;cases k using Y9 with
 |H0=>contradiction
 |E0 k=>cases k using Kt<;>first|exact .S2 O|exact .L2 O|contradiction
def attrs:P0 C1:=(["adt_type","adts","append","are_alike","asked","bare","bind","bodies","bound_of","bounds","candidates","coerce","consts","defaults","expr","extend","find","fnref","fresh","generics","get","has_body","impls","index","infer","inputs","is_enum","is_number","join","kinds","known","locals","loops","made_anew","many_loops","message","methods","module","modules","named","needs_of","number","occurs","output","owed","own","own_path","params","path","pop","publics","read","reader","regions","resolved","result","scopes","self_kind","self_type","setdefault","shallow","sigs","single","split","spot","trait","trait_args","traits","types_told","typex","unify","unknown","update","value_path","variants","world"]:P0 U6).Y4 DA
def kD(x:C1):I1:=attrs.K4 (· ==x)&&!(Y1 (vc x) 0)
section
variable(g:Nat->Option PV)(cl:Nat->Nat)
def IQ(L:y5)(x:C1):C:=
 bif w4 x then(bif l7 L x then .F0 (vc x)else bif D7 L x then(match g (vc x)with|E0 p=> .u0 p|B2=> .M2)else .M2)else .M2
def UO:se->C
 |.H0=> .u0 .H0
 |.N3 b=> .u0 (.N3 b)
 |.j0 i=> .u0 (.j0 i)
 |.Y0 s=>bif Y1 (vc s) 0 then .M2 else .u0 (.Y0 (vc s))
 |_=> .M2
def Q8(f:v0->C):P0 v0->C
 |[]=> .B0
 |.Starred ..::_=> .M2
 |e::r=> .A0 (f e) (Q8 f r)
def DY(f:v0->C):P0 (Q1 v0)->P0 v0->C
 |[],[]=> .B0
 |E0 k::ks,v::vs=> .A0 (f k) (.A0 (f v) (DY f ks vs))
 |_,_=> .M2
def v9(L:y5)(nm:C1)(x:C1):I1:=x==nm&&D7 L x
def P8:v0->I1
 |.Starred ..=>R0
 |_=>I0
def vB(L1:P0 v0):I1:=X6 L1.L7 12&&Xf P8
def cI1(f:v0->C)(L:y5)(e:v0)(x:C1)(L1:P0 v0):C:=match L1 with
 |[]=> .S4 (f e)
 |a::r=>match r with
  |[]=>bif v9 L "enumerate" x&&vB [a]then .qX (f a)else bif v9 L "range" x&&vB [a]then .Ma (f a)else .S4 (f e)
  |b::r'=>match r' with
   |[]=>bif v9 L "zip" x&&vB [a,b]then .iK (f a) (f b)else .S4 (f e)
   |_::_=> .S4 (f e)
def cI2(f:v0->C)(L:y5)(e fn:v0)(L1:P0 v0):C:=match fn with
 |.Z3 x _=>cI1 f L e x L1
 |_=> .S4 (f e)
def cI(f:v0->C)(L:y5)(e:v0):C:=match e with
 |.B7 fn L1 OA _=>match OA with
  |[]=>cI2 f L e fn L1
  |_::_=> .S4 (f e)
 |.Set _ _ _=> .M2
 |_=> .S4 (f e)
theorem Rq{L:y5}{nm x:C1}{b:I1}(h:(v9 L nm x&&b)=I0):x=nm/\D7 L nm=I0/\b=I0:=by
 unfold v9 at h;rw[N5,N5]at h;have e:=YD h.1.1;exact⟨e,e▸h.1.2,h.2⟩
inductive CI(f:v0->C)(L:y5):v0->C->Prop
 |M2 e:CI f L e .M2
 |V5 e:CI f L e (.S4 (f e))
 |r8 a b p q(h:D7 L "zip"=I0)(h2:vB [a,b]=I0):CI f L (.B7 (.Z3 "zip" p) [a,b] [] q) (.iK (f a) (f b))
 |JE a p q(h:D7 L "enumerate"=I0)(h2:vB [a]=I0):CI f L (.B7 (.Z3 "enumerate" p) [a] [] q) (.qX (f a))
 |Ym a p q(h:D7 L "range"=I0)(h2:vB [a]=I0):CI f L (.B7 (.Z3 "range" p) [a] [] q) (.Ma (f a))
theorem vB0(f:v0->C)(L:y5){x:C1}{p q:Q3}{L1:P0 v0}:CI f L (.B7 (.Z3 x p) L1 [] q) (cI1 f L (.B7 (.Z3 x p) L1 [] q) x L1):=by
 cases L1 using c5 with
 |B0=>exact .V5 _
 |A0 a r=>
  cases r using c5 with
  |B0=>
   show CI f L _ (bif v9 L "enumerate" x&&vB [a]then _ else bif v9 L "range" x&&vB [a]then _ else _);cases h:v9 L "enumerate" x&&vB [a]with
   |I0=>
    obtain⟨O,h1,h2⟩:=Rq h;exact .JE _ _ _ h1 h2
   |R0=>
    cases h:v9 L "range" x&&vB [a]with
    |I0=>
     obtain⟨O,h1,h2⟩:=Rq h;exact .Ym _ _ _ h1 h2
    |R0=>exact .V5 _
  |A0 b r=>
   cases r using c5 with
   |B0=>
    show CI f L _ (bif v9 L "zip" x&&vB [a,b]then _ else _);cases h:v9 L "zip" x&&vB [a,b]with
    |I0=>
     obtain⟨O,h1,h2⟩:=Rq h;exact .r8 _ _ _ _ h1 h2
    |R0=>exact .V5 _
   |A0=>exact .V5 _
theorem wB0(f:v0->C)(L:y5){fn:v0}{q:Q3}{L1:P0 v0}:CI f L (.B7 fn L1 [] q) (cI2 f L (.B7 fn L1 [] q) fn L1):=by
 cases fn using Z9 with
 |Z3 x p=>exact vB0 f L
 |_=>exact .V5 _
theorem s10(f:v0->C)(L:y5)(e:v0):CI f L e (cI f L e):=by
 cases e using Z9 with
 |B7 fn L1 OA q=>
  cases OA using c5 with
  |B0=>exact wB0 f L
  |A0=>exact .V5 _
 |Set=>exact .M2 _
 |_=>exact .V5 _
def FG(x:C1):Mt:=
 bif x=="append" then .SI else bif x=="pop" then .bK else bif x=="extend" then .dN else bif x=="get" then .l9 else bif x=="setdefault" then .CU
 else bif x=="update" then .GF else bif x=="join" then .mP else bif x=="split" then .fR else .J5
def Sq:eE->Q1 bG
 |.Eq=>E0 .eq|.ly=>E0 .ne|.In=>E0 .e8|.my=>E0 .pI|.Gt=>E0 .gt|.Lt=>E0 .lt|.Pg=>E0 .ge|_=>B2
def UM(e:v0):I1:=match e with
 |.G8 c _ _=>match c with|.H0=>I0|_=>R0
 |_=>R0
def ny(e:v0):I1:=match e with
 |.Set _ _ _=>I0
 |_=>R0
def Tq(f:v0->C)(l:v0)(op:eE)(r:v0):C:=bif ny r then .M2 else match Sq op with|E0 o=> .S1 o (f l) (f r)|B2=> .M2
def Ab(f:v0->C)(l:v0)(op:eE)(r:v0):C:=match op with
 |.Is=>bif UM r then .S1 .cG (f l) (.u0 .H0)else .M2
 |.Zm=>bif UM r then .S1 .mE (f l) (.u0 .H0)else .M2
 |_=>Tq f l op r
inductive EN:v0->I1->Prop
 |no e:EN e R0
 |E6 j p:EN (.G8 .H0 j p) I0
theorem Uq(e:v0):EN e (UM e):=by
 cases e using Z9 with
 |G8 c=>cases c<;>first|exact .E6 _ _|exact .no _
 |_=>exact .no _
theorem xB0{r:v0}(h:UM r=I0):∃j p,r=.G8 .H0 j p:=by
 have q:=Uq r;rw[h]at q;cases q;exact⟨_,_,O⟩
def Jh:tZ->Q1 gK
 |.oU=>E0 .n6|.BG=>E0 .w0|.nP=>E0 .Ba|_=>B2
def ZI(f:v0->C)(op:nB):P0 v0->C
 |[]=> .M2
 |[e]=>f e
 |e::r=>match op with|.DM=> .C8 (f e) (ZI f op r)|.Or=> .or (f e) (ZI f op r)
def ZH(es:P0 v0):I1:=X6 Nn 100
def EY(ks:P0 (Q1 v0))(vs:P0 v0):I1:=Y1 On Q7&&X6 On 16&&ks.ZA (·.sL)
def cB{α:Type}(l:P0 α):I1:=match l with
 |[]=>I0
 |_::_=>R0
def VO{α:Type}(o:Q1 α):I1:=match o with
 |B2=>I0
 |E0 _=>R0
theorem VM{α:Type}{l:P0 α}(h:cB l=I0):l=[]:=by cases l using c5<;>first|rfl|contradiction
theorem Bb{α:Type}{o:Q1 α}(h:VO o=I0):o=B2:=by cases o using Y9<;>first|rfl|contradiction
def Kh(a:GK):I1:=cB a.posonlyargs&&(VO a.vararg&&(cB a.kwonlyargs&&(cB a.J90&&(VO a.kwarg&&cB a.KK))))
theorem u10{a:GK}(h:Kh a=I0):a=⟨[],l00,B2,[],[],B2,[]⟩:=by
 unfold Kh at h;simp only[N5]at h;obtain⟨h1,h2,h3,h4,h5,h6⟩:=h;obtain⟨p,as,v,k,d,w,f⟩:=a;rw[show p=[]from VM h1,show v=_ from Bb h2,show k=[]from VM h3,show d=[]from VM h4,show w=_ from Bb h5,show f=[]from VM h6]
def Vq(l:P0 wR):Q1 (wR×wR×wR):=match l with
 |[]=>B2
 |x::r=>match r with
  |[]=>B2
  |y::r=>match r with
   |[]=>B2
   |z::r=>bif cB r then E0 (x,y,z)else B2
theorem yB0{l:P0 wR}{x y z:wR}(h:Vq l=E0 (x,y,z)):l=[x,y,z]:=by
 cases l using c5 with
 |B0=>contradiction
 |A0 a l=>
  cases l using c5 with
  |B0=>contradiction
  |A0 b l=>
   cases l using c5 with
   |B0=>contradiction
   |A0 c l=>
    have h:(bif cB l then E0 (a,b,c)else B2)=E0 (x,y,z):=h;obtain⟨q,h⟩:=PC h;cases h;rw[VM q]
def U7(e:v0):Q1 C1:=match e with
 |.Z3 x _=>E0 x
 |_=>B2
inductive NS:v0->Q1 C1->Prop
 |no e:NS e B2
 |E6 x p:NS (.Z3 x p) (E0 x)
theorem Lh(e:v0):NS e (U7 e):=by cases e using Z9<;>first|exact .E6 _ _|exact .no _
theorem FY{e:v0}{x:C1}(h:U7 e=E0 x):∃p,e=.Z3 x p:=by
 have q:=Lh e;rw[h]at q;cases q;exact⟨_,O⟩
def Wq(f:v0->C)(L:y5)(x:C1)(p:Q3)(a:v0):C:=
 bif v9 L "len" x then .b1 .Y5 (f a)else bif v9 L "sorted" x then .b1 .Mm (f a)else bif v9 L "str" x then .b1 .Y0 (f a)
 else bif v9 L "tuple" x then .mk .Q0 (cI f L a)else bif v9 L "list" x then .mk .M1 (cI f L a)else bif v9 L "dict" x then .mk .H2 (cI f L a)
 else .K2 (f (.Z3 x p)) (Q8 f [a])
def Xq(f:v0->C)(L:y5)(x:C1)(p:Q3)(a b:v0):C:=match U7 b with
 |E0 y=>bif v9 L "isinstance" x then(bif v9 L "tuple" y then .b1 .ig (f a)else .M2)else .K2 (f (.Z3 x p)) (Q8 f [a,b])
 |B2=> .K2 (f (.Z3 x p)) (Q8 f [a,b])
def Mh(f:v0->C)(L:y5)(x:C1)(p:Q3)(L1:P0 v0):C:=match L1 with
 |[]=> .K2 (f (.Z3 x p)) (Q8 f L1)
 |a::r=>match r with
  |[]=>Wq f L x p a
  |b::r'=>match r' with
   |[]=>Xq f L x p a b
   |_::_=> .K2 (f (.Z3 x p)) (Q8 f L1)
def j_(e:v0):Q1 A2:=match e with
 |.G8 c _ _=>match c with|.j0 i=>E0 i|_=>B2
 |_=>B2
inductive Yq:v0->Q1 A2->Prop
 |no e:Yq e B2
 |E6 i j p:Yq (.G8 (.j0 i) j p) (E0 i)
theorem w10(e:v0):Yq e (j_ e):=by
 cases e using Z9 with
 |G8 c=>cases c<;>first|exact .E6 _ _ _|exact .no _
 |_=>exact .no _
def ue(n:A2)(e:v0):I1:=match j_ e with
 |E0 i=>i==n
 |B2=>R0
theorem x10{n:A2}{e:v0}(h:ue n e=I0):∃j p,e=.G8 (.j0 n) j p:=by
 have q:=w10 e;unfold ue at h;generalize j_ e=o at q h;cases q with
 |no=>contradiction
 |E6 i j p=>exact⟨j,p,by rw[show i=n from YD h]⟩
def Zq(b:v0):Q1 (v0×v0):=match b with
 |.xC o i _=>E0 (o,i)
 |_=>B2
inductive aq:v0->Q1 (v0×v0)->Prop
 |no e:aq e B2
 |E6 o i p:aq (.xC o i p) (E0 (o,i))
theorem zB0(e:v0):aq e (Zq e):=by cases e using Z9<;>first|exact .E6 _ _ _|exact .no _
def Nh(b:v0):Q1 C1:=match Zq b with
 |E0 x=>bif ue 2 x.2 then U7 x.1 else B2
 |B2=>B2
theorem AC0{b:v0}{x:C1}(h:Nh b=E0 x):∃p1 j p2 p3,b=.xC (.Z3 x p1) (.G8 (.j0 2) j p2) p3:=by
 have q:=zB0 b;unfold Nh at h;generalize Zq b=r at q h;cases q with
 |no=>contradiction
 |E6 o i p3=>
  have h:(bif ue 2 i then U7 o else B2)=E0 x:=h;obtain⟨q,h⟩:=PC h;obtain⟨p1,O⟩:=FY h;obtain⟨j,p2,O⟩:=x10 q;exact⟨p1,j,p2,p3,O⟩
def y10(k:KV0):I1:=match k with
 |.pF=>I0
 |_=>R0
theorem BC0{k:KV0}(h:y10 k=I0):k=.pF:=by cases k<;>first|rfl|contradiction
def zU(L:y5)(f:v0->C)(e:v0):C:=match U7 e with
 |E0 x=>bif w4 x&&x6 L x then .F0 (vc x)else .M2
 |B2=> .M2
inductive Cb(L:y5):v0->C->Prop
 |M2 e:Cb L e .M2
 |F0 x p(h1:w4 x=I0)(h2:x6 L x=I0):Cb L (.Z3 x p) (.F0 (vc x))
theorem CC0(L:y5)(f:v0->C)(e:v0):Cb L e (zU L f e):=by
 have q:=Lh e;unfold zU;generalize U7 e=o at q;cases q with
 |no=>exact .M2 _
 |E6 x p=>
  show Cb L _ (bif w4 x&&x6 L x then .F0 (vc x)else .M2);cases h:w4 x&&x6 L x with
  |R0=>exact .M2 _
  |I0=>
   rw[N5]at h;exact .F0 _ _ h.1 h.2
def cT(L:y5)(f:v0->C):v0->C
 |.Z3 x _=>bif w4 x&&x6 L x then .F0 (vc x)else .M2
 |.yC o a _=>bif kD a then .Z1 (vc a) (f o)else .M2
 |.xC o i _=>match i with|.jW ..=> .M2|i=> .w0 (f o) (f i)
 |.P9 ts _ _=> .Q0 (Q8 (zU L f) ts)
 |_=> .M2
def Oh(l m:P0 C1):I1:=match l,m with
 |[],[]=>I0
 |x::l,y::m=>x==y&&Oh l m
 |_,_=>R0
def Pn(e:v0):Q1 (P0 v0):=match e with
 |.P9 ts _ _=>E0 ts
 |_=>B2
inductive bq:v0->Q1 (P0 v0)->Prop
 |no e:bq e B2
 |E6 ts j p:bq (.P9 ts j p) (E0 ts)
theorem DC0(e:v0):bq e (Pn e):=by cases e using Z9<;>first|exact .E6 _ _ _|exact .no _
theorem FC0{e:v0}{ts:P0 v0}(h:Pn e=E0 ts):∃j p,e=.P9 ts j p:=by
 have q:=DC0 e;rw[h]at q;cases q;exact⟨_,_,O⟩
def YF(e:v0):P0 C1:=match U7 e with
 |E0 x=>[x]
 |B2=>match Pn e with
  |E0 ts=>UA U7
  |B2=>[]
def JQ(L:y5)(sc:BB)(P4:v0):I1:=
 (match Of with|.pF=>I0|_=>R0)&&
 ((U7 P4).sL||(Pn P4).sL)&&
 Oh ((u5.Lm λ x=>x.2==.F7).Y4 (·.1)) (".0"::YF P4)&&
 u5.ZA λ x=>!(x.1==("__class__":C1))&&match x.2 with
  |.F7=>l7 u5 x.1&&!(D7 u5 x.1)&&(UC x.1==E0 .F7)
  |.i7=>D9 x.1==E0 .l6&&UC x.1==E0 .i7
  |.LL=>UC x.1==E0 .LL
  |_=>R0
def fq(x y z:wR)(n:C1)(sc:BB):I1:=n==aK&&(w4 n&&(!(r_==aK)&&(!(aK==VX)&&(!(r_==VX)&&(y10 Of&&(!sc.Md&&(!sc.bd&&
  (u5.ZA (λ k=>k.2==.F7)&&(UC r_==E0 .F7&&(UC aK==E0 .F7&&UC VX==E0 .F7))))))))))
def PS(a:GK)(b:v0)(sc:BB):I1:=Kh a&&match Vq l00 with
 |B2=>R0
 |E0 q=>match Nh b with
  |B2=>R0
  |E0 n=>fq q.1 q.2.1 q.2.2 n sc
def GY(L:y5)(a:GK)(O4:P0 U5)(sc:BB):I1:=Kh a&&(a.Xf (λ x=>C90.aE)&&(G_ O4).aE&&u5.ZA (λ k=>!(k.2==.i7)||(D9 k.1==E0 .l6)))
def PX(f:v0->C):Q1 v0->C
 |B2=> .u0 .H0
 |E0 e=>f e
def cUn(f:v0->C)(op:ZD)(x:v0):C:=match op with
 |.XX=> .eH (f x)
 |.oP=>match j_ x with|E0 i=> .u0 (.j0 (-i))|B2=> .M2
 |_=> .M2
def gq(op:tZ)(a b:C):C:=match Jh op with|E0 o=> .K6 o a b|B2=> .M2
def A20(f:v0->C)(l:v0)(lI:P0 eE)(rs:P0 v0):C:=match lI with
 |[]=> .M2
 |op::o=>match o with
  |[]=>match rs with
   |[]=> .M2
   |r::r'=>match r' with
    |[]=>Ab f l op r
    |_::_=> .M2
  |_::_=> .M2
def jq(f:v0->C)(o:v0)(x:C1)(ap:Q3)(L1:P0 v0)(p:Q3):C:=bif vB L1&&Y1 Vl u_&&kD x then .E4 (FG x) (vc x) (f o) (Q8 f L1)else .M2
def B20(f:v0->C)(L:y5)(fn:v0)(L1:P0 v0)(p:Q3):C:=match fn with
 |.yC o x ap=>jq f o x ap L1 p
 |.Z3 x q=>bif vB L1 then Mh f L x q L1 else .M2
 |_=> .M2
def kq(e:v0):Q1 v0:=match e with
 |.ZD op x _=>match op with|.oP=>E0 x|_=>B2
 |_=>B2
inductive lq:v0->Q1 v0->Prop
 |no e:lq e B2
 |E6 x p:lq (.ZD .oP x p) (E0 x)
theorem GC0(e:v0):lq e (kq e):=by
 cases e using Z9 with
 |ZD op=>cases op<;>first|exact .E6 _ _|exact .no _
 |_=>exact .no _
def Eb(e:v0):I1:=match kq e with
 |E0 x=>ue 1 x
 |B2=>R0
theorem HC0{e:v0}(h:Eb e=I0):∃j p q,e=.ZD .oP (.G8 (.j0 1) j p) q:=by
 symm;have q:=GC0 e;unfold Eb at h;generalize kq e=r at q h;cases q with
 |no=>contradiction
 |E6 x p=>
  obtain⟨j,q,O⟩:=x10 h;ext;exact⟨j,q,p,O⟩
def IC0(f:v0->C)(o:v0)(lo hi:Q1 v0)(e:v0):C:=match lo with
 |B2=>match hi with
  |B2=>bif Eb e then .uP (f o)else .M2
  |E0 _=> .M2
 |E0 _=> .M2
def C20(f:v0->C)(o i:v0):C:=match i with
 |.jW lo hi st _=>match st with
  |B2=> .dE (f o) (PX f lo) (PX f hi)
  |E0 e=>IC0 f o lo hi e
 |_=> .w0 (f o) (f i)
def Ph(gs:P0 pk):Q1 (v0×v0×P0 v0):=match gs with
 |[]=>B2
 |c::r=>match r with
  |[]=>match c with|⟨P4,it,z6,a⟩=>bif a==0 then E0 (P4,it,z6)else B2
  |_::_=>B2
theorem D20{gs:P0 pk}{P4 it:v0}{z6:P0 v0}(h:Ph gs=E0 (P4,it,z6)):gs=[⟨P4,it,z6,0⟩]:=by
 cases gs using c5 with
 |B0=>contradiction
 |A0 c r=>
  cases r using c5 with
  |A0=>contradiction
  |B0=>
   obtain⟨t,i,f,a⟩:=c;have h:(bif a==0 then E0 (t,i,f)else B2)=E0 (P4,it,z6):=h;obtain⟨q,h⟩:=PC h;cases h;rw[show a=0 from YD q]
def AV(E:y5->v0->C)(L:y5)(X5:v0)(gs:P0 pk)(sc:BB):C:=match Ph gs with
 |E0 x=>bif JQ L sc x.1 then .H7 (E u5 X5) (cT u5 (E u5) x.1) (Q8 (E u5) x.2.2) (cI (E L) L x.2.1)else .M2
 |B2=> .M2
def cE:C0->y5->v0->C
 |0,_,_=> .M2
 |n+1,L,e=>match e with
  |.G8 c _ _=>UO c
  |.Z3 x _=>IQ g L x
  |.nB op vs _=>ZI (cE n L) op vs
  |.H_ l op r _=>gq op (cE n L l) (cE n L r)
  |.ZD op x _=>cUn (cE n L) op x
  |.SU t a b _=> .J7 (cE n L t) (cE n L a) (cE n L b)
  |.P9 es _ _=>bif ZH es then .Q0 (Q8 (cE n L) es)else .M2
  |.P0 es _=>bif ZH es then .M1 (Q8 (cE n L) es)else .M2
  |.Qn ks vs _=>bif EY ks vs then .H2 (DY (cE n L) ks vs)else .M2
  |.NB X5 gs sc _=>AV (cE n) L X5 gs sc
  |.RP l lI rs _=>A20 (cE n L) l lI rs
  |.B7 fn L1 OA p=>match OA with
   |[]=>B20 (cE n L) L fn L1 p
   |_::_=> .M2
  |.yC o x _=>bif kD x then .Z1 (vc x) (cE n L o)else .M2
  |.xC o i _=>C20 (cE n L) o i
  |.Ry a b sc _=>bif PS a b sc then .lA (cl 0)else .M2
  |_=> .M2
section
variable(k:Nat)(L:Kinds)
inductive CE:v0->C->Prop
 |M2 e:CE e .M2
 |const c j p:CE (.G8 c j p) (UO c)
 |W2 x p:CE (.Z3 x p) (IQ g L x)
 |E20 op e p:CE (.nB op [e] p) (cE g cl k L e)
 |F20 op e1 e2 r p:CE (.nB op (e1::e2::r) p) (ZI (cE g cl k L) op (e1::e2::r))
 |K6 l op r p o(h:Jh op=E0 o):CE (.H_ l op r p) (.K6 o (cE g cl k L l) (cE g cl k L r))
 |eH x p:CE (.ZD .XX x p) (.eH (cE g cl k L x))
 |G20 i j q p:CE (.ZD .oP (.G8 (.j0 i) j q) p) (.u0 (.j0 (-i)))
 |J7 t a b p:CE (.SU t a b p) (.J7 (cE g cl k L t) (cE g cl k L a) (cE g cl k L b))
 |Q0 es j p(h:ZH es=I0):CE (.P9 es j p) (.Q0 (Q8 (cE g cl k L) es))
 |M1 es p(h:ZH es=I0):CE (.P0 es p) (.M1 (Q8 (cE g cl k L) es))
 |H2 ks vs p(h:EY ks vs=I0):CE (.Qn ks vs p) (.H2 (DY (cE g cl k L) ks vs))
 |H7 X5 P4 it z6 sc p(h:JQ L sc P4=I0):CE (.NB X5 [⟨P4,it,z6,0⟩] sc p) (.H7 (cE g cl k u5 X5) (cT u5 (cE g cl k u5) P4) (Q8 (cE g cl k u5) z6) (cI (cE g cl k L) L it))
 |S1 l op r p:CE (.RP l [op] [r] p) (Ab (cE g cl k L) l op r)
 |Fb o x ap L1 p(h1:vB L1=I0)(h2:Y1 Vl u_=I0)(h3:kD x=I0):CE (.B7 (.yC o x ap) L1 [] p) (.E4 (FG x) (vc x) (cE g cl k L o) (Q8 (cE g cl k L) L1))
 |K2 x p L1 q(h:vB L1=I0):CE (.B7 (.Z3 x p) L1 [] q) (Mh (cE g cl k L) L x p L1)
 |Z1 o x p(h:kD x=I0):CE (.yC o x p) (.Z1 (vc x) (cE g cl k L o))
 |dE o lo hi q p:CE (.xC o (.jW lo hi B2 q) p) (.dE (cE g cl k L o) (PX (cE g cl k L) lo) (PX (cE g cl k L) hi))
 |uP o j p1 p2 p3 p4:CE (.xC o (.jW B2 B2 (E0 (.ZD .oP (.G8 (.j0 1) j p1) p2)) p3) p4) (.uP (cE g cl k L o))
 |w0 o i p:CE (.xC o i p) (.w0 (cE g cl k L o) (cE g cl k L i))
 |lA a b sc p(h:PS a b sc=I0):CE (.Ry a b sc p) (.lA (cl 0))
variable{k L}
theorem JC0{op:ZD}{x:v0}{p:Q3}:CE g cl k L (.ZD op x p) (cUn (cE g cl k L) op x):=by
 cases op using ZD.W9 with
 |XX=>exact .eH _ _
 |oP=>
  show CE g cl k L _ (match j_ x with|E0 i=> .u0 (.j0 (-i))|B2=> .M2);have q:=w10 x;generalize j_ x=o at q;cases q with
  |no=>exact .M2 _
  |E6=>exact .G20 _ _ _ _
 |_=>exact .M2 _
theorem KC0{l r:v0}{op:tZ}{p:Q3}:CE g cl k L (.H_ l op r p) (gq op (cE g cl k L l) (cE g cl k L r)):=by
 unfold gq;cases h:Jh op with
 |H0=>exact .M2 _
 |E0 o=>exact .K6 _ _ _ _ _ h
theorem LC0{X5:v0}{gs:P0 pk}{sc:BB}{p:Q3}:CE g cl k L (.NB X5 gs sc p) (AV (cE g cl k) L X5 gs sc):=by
 unfold AV;cases h:Ph gs with
 |H0=>exact .M2 _
 |E0 x=>
  obtain⟨P4,it,z6⟩:=x;rw[D20 h];show CE g cl k L _ (bif JQ L sc P4 then _ else _);cases h2:JQ L sc P4 with
  |R0=>exact .M2 _
  |I0=>exact .H7 _ _ _ _ _ _ h2
theorem MC0{l:v0}{lI:P0 eE}{rs:P0 v0}{p:Q3}:CE g cl k L (.RP l lI rs p) (A20 (cE g cl k L) l lI rs):=by
 cases lI using c5 with
 |B0=>exact .M2 _
 |A0 op o=>
  cases o using c5 with
  |A0=>exact .M2 _
  |B0=>
   cases rs using c5 with
   |B0=>exact .M2 _
   |A0 r r'=>
    cases r' using c5 with
    |A0=>exact .M2 _
    |B0=>exact .S1 _ _ _ _
theorem NC0{fn:v0}{L1:P0 v0}{p:Q3}:CE g cl k L (.B7 fn L1 [] p) (B20 (cE g cl k L) L fn L1 p):=by
 cases fn using Z9 with
 |yC o x ap=>
  show CE g cl k L _ (jq _ o x ap L1 p);unfold jq;cases h:vB L1&&Y1 Vl u_&&kD x with
  |R0=>exact .M2 _
  |I0=>
   rw[N5,N5]at h;exact .Fb _ _ _ _ _ h.1.1 h.1.2 h.2
 |Z3 x q=>
  show CE g cl k L _ (bif vB L1 then Mh _ L x q L1 else .M2);cases h:vB L1 with
  |R0=>exact .M2 _
  |I0=>exact .K2 _ _ _ _ h
 |_=>exact .M2 _
theorem OC0{o i:v0}{p:Q3}:CE g cl k L (.xC o i p) (C20 (cE g cl k L) o i):=by
 cases i using Z9 with
 |jW lo hi st q=>
  cases st using Y9 with
  |H0=>exact .dE _ _ _ _ _
  |E0 e=>
   cases lo using Y9 with
   |E0=>exact .M2 _
   |H0=>
    cases hi using Y9 with
    |E0=>exact .M2 _
    |H0=>
     show CE g cl k L _ (bif Eb e then _ else _);cases h:Eb e with
     |R0=>exact .M2 _
     |I0=>
      obtain⟨j,p1,p2,O⟩:=HC0 h;exact .uP _ _ _ _ _ _
 |_=>exact .w0 _ _ _
theorem PC0{e:v0}:CE g cl k L e (cE g cl (k+1) L e):=by
 cases e using Z9 with
 |G8=>exact .const _ _ _
 |Z3=>exact .W2 _ _
 |nB op vs p=>
  cases vs using c5 with
  |B0=>exact .M2 _
  |A0 e r=>
   cases r using c5 with
   |B0=>exact .E20 _ _ _
   |A0=>exact .F20 _ _ _ _ _
 |H_=>exact KC0 g cl
 |ZD=>exact JC0 g cl
 |SU=>exact .J7 _ _ _ _
 |P9 es j p=>
  show CE g cl k L _ (bif ZH es then _ else _);cases h:ZH es with
  |R0=>exact .M2 _
  |I0=>exact .Q0 _ _ _ h
 |P0 es p=>
  show CE g cl k L _ (bif ZH es then _ else _);cases h:ZH es with
  |R0=>exact .M2 _
  |I0=>exact .M1 _ _ h
 |Qn ks vs p=>
  show CE g cl k L _ (bif EY ks vs then _ else _);cases h:EY ks vs with
  |R0=>exact .M2 _
  |I0=>exact .H2 _ _ _ h
 |NB=>exact LC0 g cl
 |RP=>exact MC0 g cl
 |B7 fn L1 OA p=>
  cases OA using c5 with
  |B0=>exact NC0 g cl
  |A0=>exact .M2 _
 |yC o x p=>
  show CE g cl k L _ (bif kD x then _ else _);cases h:kD x with
  |R0=>exact .M2 _
  |I0=>exact .Z1 _ _ _ h
 |xC=>exact OC0 g cl
 |Ry a b sc p=>
  show CE g cl k L _ (bif PS a b sc then _ else _);cases h:PS a b sc with
  |R0=>exact .M2 _
  |I0=>exact .lA _ _ _ _ h
 |_=>exact .M2 _
end
variable(hr:ExceptHandler->Option (Nat×Nat×Nat×Nat×Nat))
def H20(p:PV):Q1 C0:=match p with
 |.Z0 a=>E0 a
 |_=>B2
theorem QC0{p:PV}{a:C0}(h:H20 p=E0 a):p=.Z0 a:=by
 cases p using P3 with
 |Z0 b=>exact G6 kA0 (H3 h)
 |_=>contradiction
theorem I20{t:C}(h:Zp t=I0):∃ts,t=.Q0 ts:=by
 cases t using C.W9 with
 |Q0 ts=>exact⟨_,O⟩
 |_=>contradiction
def VH(g:C0->Q1 PV)(L:y5)(e:v0):Q1 C0:=(U7 e).R6 λ x=>bif w4 x&&D7 L x then(g (vc x)).R6 H20 else B2
def WO(g:C0->Q1 PV)(L:y5):v0->C
 |.Z3 x _=>IQ g L x
 |.G8 c _ _=>UO c
 |_=> .M2
def Qh:se->Q1 PV
 |.H0=>E0 .H0
 |.N3 b=>E0 (.N3 b)
 |.j0 i=>E0 (.j0 i)
 |.Y0 s=>bif Y1 (vc s) 0 then B2 else E0 (.Y0 (vc s))
 |_=>B2
theorem RC0{c:se}{v:PV}(h:Qh c=E0 v):UO c=.u0 v:=by
 cases c with
 |Y0 s=>
  have h:(bif Y1 (vc s) 0 then B2 else E0 (.Y0 (vc s)))=E0 v:=h;show(bif Y1 (vc s) 0 then X00 else .u0 (.Y0 (vc s)))=_;cases q:Y1 (vc s) 0 with
  |I0=>rw[q]at h;contradiction
  |R0=>rw[q]at h;obtain O:=H3 h;rfl
 |H0|N3|j0=>obtain O:=H3 h;rfl
 |_=>contradiction
section
variable(g:Nat->Option PV)(L:Kinds)(a:Nat)(R:S)
def cHv(e:v0):S:=match e with
 |.G8 c _ _=>match Qh c with|E0 v=> .gU a v R|B2=> .M2
 |.P0 es _=>bif ZH es then .jg a (Q8 (WO g L) es) R else .M2
 |_=> .M2
def mq(st:U5):S:=match st with
 |.QK v _=>match v with|E0 e=>cHv g L a R e|B2=> .M2
 |_=> .M2
def nq(e:v0):Q1 (v0×C1):=match e with
 |.yC o x _=>E0 (o,x)
 |_=>B2
inductive oq:v0->Q1 (v0×C1)->Prop
 |no e:oq e B2
 |E6 o x p:oq (.yC o x p) (E0 (o,x))
theorem SC0(e:v0):oq e (nq e):=by cases e using Z9<;>first|exact .E6 _ _ _|exact .no _
def Rh(e:v0):Q1 (C1×C1):=match nq e with
 |E0 q=>match U7 q.1 with|E0 y=>E0 (y,q.2)|B2=>B2
 |B2=>B2
theorem TC0{e:v0}{y x:C1}(h:Rh e=E0 (y,x)):∃p q,e=.yC (.Z3 y p) x q:=by
 symm;have q:=SC0 e;unfold Rh at h;generalize nq e=r at q h;cases q with
 |no=>contradiction
 |E6 o z q=>
  have h:(match U7 o with|E0 y=>E0 (y,z)|B2=>B2)=E0 (y,x):=h;cases ho:U7 o with
  |H0=>
   ext;rw[ho]at h;contradiction
  |E0 y'=>
   ext;rw[ho]at h;cases h;obtain⟨p,O⟩:=FY ho;exact⟨p,q,O⟩
def Sh(x x' n8 y:C1):I1:=x==x'&&(w4 x&&(w4 y&&(D9 x==E0 .F7&&(l7 L y&&(!(x==y)&&n8==("message":C1))))))
def qq(x:C1)(d m y:v0):S:=match Rh m with
 |B2=> .M2
 |E0 q=>match U7 y with
  |B2=> .M2
  |E0 yn=>match VH g L d with
   |B2=> .M2
   |E0 d'=>bif Sh L x q.1 q.2 yn then .lg a (vc x) d' (vc q.2) (vc yn) R else .M2
def cHy(x:C1)(e:v0):S:=match e with
 |.B7 d L1 OA _=>match OA with
  |[]=>match L1 with
   |[]=> .M2
   |m::r=>match r with
    |[]=> .M2
    |y::r'=>match r' with
     |[]=>qq g L a R x d m y
     |_::_=> .M2
  |_::_=> .M2
 |_=> .M2
def sq(x:C1)(st:U5):S:=match st with
 |.ZP e c _=>match e with
  |E0 e'=>match c with
   |E0 c'=>bif UM c' then cHy g L a R x e' else .M2
   |B2=> .M2
  |B2=> .M2
 |_=> .M2
def cH1(ty:Q1 v0)(nm:Q1 C1)(O4:P0 U5):S:=match ty with
 |B2=> .M2
 |E0 t=>match VH g L t with
  |B2=> .M2
  |E0 a=>match O4 with
   |[]=> .M2
   |st::r=>match r with
    |_::_=> .M2
    |[]=>match nm with
     |B2=>mq g L a R st
     |E0 x=>sq g L a R x st
end
def cH(g:C0->Q1 PV)(L:y5):P0 tD->S
 |[]=> .B0
 |h::r=>match h with|.tD ty nm O4 _=>cH1 g L (cH g L r) ty nm O4
section
variable{g:Nat->Option PV}{L:Kinds}{a:Nat}{R:S}{t:Expr}{hp:Pos}
inductive CH(g:C0->Q1 PV)(L:y5)(R:S):tD->S->Prop
 |M2 h:CH g L R h .M2
 |U1 t c j cp rp hp a v(h1:VH g L t=E0 a)(h2:UO c=.u0 v):CH g L R (.tD (E0 t) B2 [.QK (E0 (.G8 c j cp)) rp] hp) (.gU a v R)
 |J20 t es lp rp hp a(h1:VH g L t=E0 a)(h2:ZH es=I0):CH g L R (.tD (E0 t) B2 [.QK (E0 (.P0 es lp)) rp] hp) (.jg a (Q8 (WO g L) es) R)
 |Gb t x d xp ap y yp cp j np rp hp a dd(ha:VH g L t=E0 a)(hd:VH g L d=E0 dd)(h1:w4 x=I0)(h2:w4 y=I0)(h3:D9 x=E0 .F7)(h4:l7 L y=I0)(h5:x≠y):
   CH g L R (.tD (E0 t) (E0 x) [.ZP (E0 (.B7 d [.yC (.Z3 x xp) "message" ap,.Z3 y yp] [] cp)) (E0 (.G8 .H0 j np)) rp] hp) (.lg a (vc x) dd (vc "message") (vc y) R)
theorem UC0{st:U5}(ha:VH g L t=E0 a):CH g L R (.tD (E0 t) B2 [st] hp) (mq g L a R st):=by
 cases st using U5.W9 with
 |QK v p=>
  cases v using Y9 with
  |H0=>exact .M2 _
  |E0 e=>
   cases e using Z9 with
   |G8 c j q=>
    show CH g L R _ (match Qh c with|E0 v=> .gU a v R|B2=> .M2);cases h:Qh c with
    |H0=>exact .M2 _
    |E0 v=>exact .U1 _ _ _ _ _ _ _ _ ha (RC0 h)
   |P0 es q=>
    show CH g L R _ (bif ZH es then _ else _);cases h:ZH es with
    |R0=>exact .M2 _
    |I0=>exact .J20 _ _ _ _ _ _ ha h
   |_=>exact .M2 _
 |_=>exact .M2 _
theorem VC0{x:C1}{d m y:v0}{cp np rp:Q3}{j:C0}(ha:VH g L t=E0 a):CH g L R (.tD (E0 t) (E0 x) [.ZP (E0 (.B7 d [m,y] [] cp)) (E0 (.G8 .H0 j np)) rp] hp) (qq g L a R x d m y):=by
 unfold qq;cases h1:Rh m with
 |H0=>exact .M2 _
 |E0 q=>
  obtain⟨x',n8⟩:=q;cases h2:U7 y with
  |H0=>exact .M2 _
  |E0 yn=>
   cases h3:VH g L d with
   |H0=>exact .M2 _
   |E0 d'=>
    show CH g L R _ (bif Sh L x x' n8 yn then _ else _);cases h4:Sh L x x' n8 yn with
    |R0=>exact .M2 _
    |I0=>
     obtain⟨p,q,O⟩:=TC0 h1;obtain⟨yp,O⟩:=FY h2;unfold Sh at h4;simp only[N5]at h4;obtain⟨e1,e2,e3,e4,e5,e6,e7⟩:=h4;obtain O:=YD e1;obtain O:=YD e7;exact .Gb _ _ _ _ _ _ _ _ _ _ _ _ _ _ ha h3 e2 e3 (YD e4) e5 (λ q=>by rw[q,GW]at e6;contradiction)
theorem WC0{x:C1}{e:v0}{np rp:Q3}{j:C0}(ha:VH g L t=E0 a):CH g L R (.tD (E0 t) (E0 x) [.ZP (E0 e) (E0 (.G8 .H0 j np)) rp] hp) (cHy g L a R x e):=by
 cases e using Z9 with
 |B7 d L1 OA p=>
  cases OA using c5 with
  |A0=>exact .M2 _
  |B0=>
   cases L1 using c5 with
   |B0=>exact .M2 _
   |A0 m r=>
    cases r using c5 with
    |B0=>exact .M2 _
    |A0 y r=>
     cases r using c5 with
     |A0=>exact .M2 _
     |B0=>exact VC0 ha
 |_=>exact .M2 _
theorem XC0{x:C1}{st:U5}(ha:VH g L t=E0 a):CH g L R (.tD (E0 t) (E0 x) [st] hp) (sq g L a R x st):=by
 cases st using U5.W9 with
 |ZP e c p=>
  cases e using Y9 with
  |H0=>exact .M2 _
  |E0 e=>
   cases c using Y9 with
   |H0=>exact .M2 _
   |E0 c=>
    show CH g L R _ (bif UM c then _ else _);cases h:UM c with
    |R0=>exact .M2 _
    |I0=>
     obtain⟨j,np,O⟩:=xB0 h;exact WC0 ha
 |_=>exact .M2 _
theorem YC0{h:tD}{r:P0 tD}:CH g L (cH g L r) h (cH g L (h::r)):=by
 obtain⟨ty,nm,O4,hp⟩:=h;cases ty using Y9 with
 |H0=>exact .M2 _
 |E0 t=>
  show CH g L (cH g L r) _ (match VH g L t with
   |B2=> .M2
   |E0 a=>match O4 with
    |[]=> .M2
    |st::r'=>match r' with
     |_::_=> .M2
     |[]=>match nm with
      |B2=>mq g L a (cH g L r) st
      |E0 x=>sq g L a (cH g L r) x st)
  cases ha:VH g L t with
  |H0=>exact .M2 _
  |E0 a=>
   cases O4 using c5 with
   |B0=>exact .M2 _
   |A0 st r'=>
    cases r' using c5 with
    |A0=>exact .M2 _
    |B0=>
     cases nm using Y9 with
     |H0=>exact UC0 ha
     |E0 x=>exact XC0 ha
end
def WM(t e:v0):I1:=match e with
 |.NB _ _ sc _=>match t with
  |.Z3 x _=>!(u5.K4 λ y=>y.1==x&&(y.2==.F7||y.2==.l6))
  |_=>I0
 |.KA0 ..=>R0
 |.v90 ..=>R0
 |_=>I0
def mK(t e:v0):I1:=match t,e with
 |.P9 _ _ _,.P9 vs _ _=>!(tm (kt 8))
 |_,_=>I0
inductive vq:v0->I1->Prop
 |no e:vq e R0
 |E6 f L1 OA p:vq (.B7 f L1 OA p) I0
def oW(e:v0):I1:=match e with
 |.B7 ..=>I0
 |_=>R0
theorem K20(e:v0):vq e (oW e):=by cases e using Z9<;>first|exact .E6 _ _ _ _|exact .no _
def L20(st:U5):I1:=match st with
 |.MF ts e _=>match ts with
  |[]=>R0
  |t::r=>cB r&&((U7 t).sL&&oW e)
 |.v0 e _=>oW e
 |_=>R0
def BV(b:P0 U5):I1:=match b with
 |[]=>R0
 |st::r=>cB r&&L20 st
inductive CV:P0 U5->I1->Prop
 |no b:CV b R0
 |V1 x xp f L1 OA cp C2:CV [.MF [.Z3 x xp] (.B7 f L1 OA cp) C2] I0
 |A6 f L1 OA cp C2:CV [.v0 (.B7 f L1 OA cp) C2] I0
theorem ZC0(st:U5):CV [st] (L20 st):=by
 cases st using U5.W9 with
 |MF ts e p=>
  cases ts using c5 with
  |B0=>exact .no _
  |A0 t r=>
   show CV _ (cB r&&((U7 t).sL&&oW e));cases r using c5 with
   |A0=>exact .no _
   |B0=>
    have q:=Lh t;generalize U7 t=o at q;cases q with
    |no=>exact .no _
    |E6 x xp=>
     have q:=K20 e;generalize oW e=o at q;cases q with
     |no=>exact .no _
     |E6=>exact .V1 _ _ _ _ _ _ _
 |v0 e p=>
  show CV _ (oW e);have q:=K20 e;generalize oW e=o at q;cases q with
  |no=>exact .no _
  |E6=>exact .A6 _ _ _ _ _
 |_=>exact .no _
theorem aC0(b:P0 U5):CV b (BV b):=by
 cases b using c5 with
 |B0=>exact .no _
 |A0 st r=>
  cases r using c5 with
  |B0=>exact ZC0 st
  |A0=>exact .no _
def iG:P0 C1->I1
 |[]=>I0
 |x::r=>!(r.K4 (· ==x))&&iG r
def Ib(e:v0):I1:=match e with
 |.NB ..=>I0
 |.KA0 ..=>I0
 |.v90 ..=>I0
 |_=>R0
section
variable(E:Expr->C)(S':List Stmt->S)(L:Kinds)
def M20(ts:P0 v0)(e:v0)(r:P0 U5):S:=match ts with
 |[]=> .M2
 |t::q=>match q with
  |[]=>bif WM t e&&iG (YF t)&&mK t e then .V1 (cT L E t) (E e) (S' r)else .M2
  |_::_=> .M2
def N20(b:P0 U5)(hs:P0 tD)(el fb r:P0 U5):S:=match hs with
 |[]=> .M2
 |h::q=>bif cB el&&(cB fb&&BV b)then .OO (S' b) (cH g L (h::q)) (S' r)else .M2
def xq(x:C1)(a:GK)(b:P0 U5)(dl:P0 v0)(rt:Q1 v0)(tp:P0 LV0)(sc:BB)(ts:Q1 BB)(x':C1)(r:P0 U5):S:=
 bif cB dl&&(VO rt&&(cB tp&&(VO ts&&(w4 x&&(x6 L x&&(x==x'&&GY L a b sc))))))then .g_ (vc x) (S' r)else .M2
def cSt(s:U5)(r:P0 U5):S:=match s with
 |.v0 e _=>bif Ib e then .M2 else .A6 (E e) (S' r)
 |.Jn _=>S' r
 |.qy _=> .ZB
 |.nx _=> .YB
 |.QK v _=>match v with|E0 e=> .U1 (E e)|B2=> .U1 (.u0 .H0)
 |.MF ts e _=>M20 E S' L ts e r
 |.If t a b _=> .J3 (E t) (S' a) (S' b) (S' r)
 |.YX t it b el _=>bif cB el&&iG (YF t)then .OE (cT L E t) (cI E L it) (S' b) (S' r)else .M2
 |.sy t b el _=>bif cB el then .CM (E t) (S' b) (S' r)else .M2
 |.ZP e c _=>match e with
  |E0 e=>bif VO c then .fC (E e)else .M2
  |B2=> .M2
 |.Oo b hs el fb _=>N20 g S' L b hs el fb r
 |.AU x a b dl rt tp sc ts x' _=>xq S' L x a b dl rt tp sc ts x' r
 |_=> .M2
end
def cS:C0->y5->P0 U5->S
 |0,_,_=> .M2
 |n+1,L,st=>match st with
  |[]=> .B0
  |s::r=>cSt g (cE g cl n L) (cS n L) L s r
section
variable(k:Nat)(L:Kinds)
inductive CS:P0 U5->S->Prop
 |M2 st:CS st .M2
 |B0:CS [] .B0
 |A6 e p r(h:Ib e=R0):CS (.v0 e p::r) (.A6 (cE g cl k L e) (cS g cl k L r))
 |pas p r:CS (.Jn p::r) (cS g cl k L r)
 |ZB p r:CS (.qy p::r) .ZB
 |YB p r:CS (.nx p::r) .YB
 |U1 e p r:CS (.QK (E0 e) p::r) (.U1 (cE g cl k L e))
 |O20 p r:CS (.QK B2 p::r) (.U1 (.u0 .H0))
 |V1 t e p r(h1:WM t e=I0)(h2:iG (YF t)=I0)(h3:mK t e=I0):CS (.MF [t] e p::r) (.V1 (cT L (cE g cl k L) t) (cE g cl k L e) (cS g cl k L r))
 |J3 t a b p r:CS (.If t a b p::r) (.J3 (cE g cl k L t) (cS g cl k L a) (cS g cl k L b) (cS g cl k L r))
 |OE t it b p r(h:iG (YF t)=I0):CS (.YX t it b [] p::r) (.OE (cT L (cE g cl k L) t) (cI (cE g cl k L) L it) (cS g cl k L b) (cS g cl k L r))
 |CM t b p r:CS (.sy t b [] p::r) (.CM (cE g cl k L t) (cS g cl k L b) (cS g cl k L r))
 |Gb e p r:CS (.ZP (E0 e) B2 p::r) (.fC (cE g cl k L e))
 |OO b h hs p r(hb:BV b=I0):CS (.Oo b (h::hs) [] [] p::r) (.OO (cS g cl k L b) (cH g L (h::hs)) (cS g cl k L r))
 |g_ x a b sc p r(h1:w4 x=I0)(h2:x6 L x=I0)(h4:GY L a b sc=I0):CS (.AU x a b [] B2 [] sc B2 x p::r) (.g_ (vc x) (cS g cl k L r))
variable{k L}{r:List Stmt}{p:Pos}
theorem bC0{ts:P0 v0}{e:v0}:CS g cl k L (.MF ts e p::r) (M20 (cE g cl k L) (cS g cl k L) L ts e r):=by
 cases ts using c5 with
 |B0=>exact .M2 _
 |A0 t q=>
  cases q using c5 with
  |A0=>exact .M2 _
  |B0=>
   show CS g cl k L _ (bif WM t e&&iG (YF t)&&mK t e then _ else _);cases h:WM t e&&iG (YF t)&&mK t e with
   |R0=>exact .M2 _
   |I0=>
    rw[N5,N5]at h;exact .V1 _ _ _ _ h.1.1 h.1.2 h.2
theorem cC0{b el fb:P0 U5}{hs:P0 tD}:CS g cl k L (.Oo b hs el fb p::r) (N20 g (cS g cl k L) L b hs el fb r):=by
 cases hs using c5 with
 |B0=>exact .M2 _
 |A0 h q=>
  show CS g cl k L _ (bif cB el&&(cB fb&&BV b)then _ else _);cases hh:cB el&&(cB fb&&BV b)with
  |R0=>exact .M2 _
  |I0=>
   rw[N5,N5]at hh;obtain O:=VM hh.1;obtain O:=VM hh.2.1;exact .OO _ _ _ _ _ hh.2.2
theorem dC0{x x':C1}{a:GK}{b:P0 U5}{dl:P0 v0}{rt:Q1 v0}{tp:P0 LV0}{sc:BB}{ts:Q1 BB}:CS g cl k L (.AU x a b dl rt tp sc ts x' p::r) (xq (cS g cl k L) L x a b dl rt tp sc ts x' r):=by
 unfold xq;cases h:cB dl&&(VO rt&&(cB tp&&(VO ts&&(w4 x&&(x6 L x&&(x==x'&&GY L a b sc))))))with
 |R0=>exact .M2 _
 |I0=>
  simp only[N5]at h;obtain⟨h1,h2,h3,h4,h5,h6,h7,h8⟩:=h;obtain O:=VM h1;obtain O:=Bb h2;obtain O:=VM h3;obtain O:=Bb h4;obtain O:=YD h7;exact .g_ _ _ _ _ _ _ h5 h6 h8
theorem eC0{st:P0 U5}:CS g cl k L st (cS g cl (k+1) L st):=by
 cases st using c5 with
 |B0=>exact .B0
 |A0 s r=>
  cases s using U5.W9 with
  |v0 e p=>
   show CS g cl k L _ (bif Ib e then _ else _);cases h:Ib e with
   |I0=>exact .M2 _
   |R0=>exact .A6 _ _ _ h
  |Jn=>exact .pas _ _
  |qy=>exact .ZB _ _
  |nx=>exact .YB _ _
  |QK v p=>
   cases v using Y9 with
   |H0=>exact .O20 _ _
   |E0 e=>exact .U1 _ _ _
  |MF=>exact bC0 g cl
  |If=>exact .J3 _ _ _ _ _
  |YX t it b el p=>
   show CS g cl k L _ (bif cB el&&iG (YF t)then _ else _);cases h:cB el&&iG (YF t)with
   |R0=>exact .M2 _
   |I0=>
    rw[N5]at h;obtain O:=VM h.1;exact .OE _ _ _ _ _ h.2
  |sy t b el p=>
   show CS g cl k L _ (bif cB el then _ else _);cases h:cB el with
   |R0=>exact .M2 _
   |I0=>
    obtain O:=VM h;exact .CM _ _ _ _
  |ZP e c p=>
   cases e using Y9 with
   |H0=>exact .M2 _
   |E0 e=>
    show CS g cl k L _ (bif VO c then _ else _);cases h:VO c with
    |R0=>exact .M2 _
    |I0=>
     obtain O:=Bb h;exact .Gb _ _ _
  |Oo=>exact cC0 g cl
  |AU=>exact dC0 g cl
  |_=>exact .M2 _
end
end
end
end
section
def pR(n:C0)(f:C0->I1):I1:=@VR (λ _=>I1) I0 (λ d ih=>bif f d then ih else R0) n
def XM(ι:C0->C0):PV->PV
 |.J0 i=> .J0 (ι i)
 |.A0 a r=> .A0 (XM ι a) (XM ι r)
 |.kv k v r=> .kv k (XM ι v) (XM ι r)
 |.Q0 l=> .Q0 (XM ι l)
 |p=>p
def PD(k:C0):PV->I1
 |.J0 i=>X6 i k
 |.A0 a r=>PD k a&&PD k r
 |.kv _ v r=>PD k v&&PD k r
 |.Q0 l=>PD k l
 |.ty _=>R0|.wr _=>R0|.lC _=>R0
 |_=>I0
def DV(ι:C0->C0):AO->AO
 |.M1 l=> .M1 (XM ι l)
 |.H2 l=> .H2 (XM ι l)
 |.V6 l=> .V6 (XM ι l)
 |.u7 c d=> .u7 c (ι d)
 |.R4=> .R4
 |_=> .K4
def KQ:AO->I1
 |.V6 _=>I0
 |_=>R0
def LQ(σ:K1)(k:C0):AO->I1
 |.M1 l=>PD k l
 |.H2 l=>PD k l
 |.V6 l=>PD k l
 |.u7 _ d=>X6 d k&&KQ (AA d)
 |.R4=>I0
 |_=>R0
def YM(p:PV):PV->I1:=@P_ (λ _=>PV->I1)
 (λ q=>match q with|.H0=>I0|_=>R0)
 (λ b q=>match q with|.N3 c=>(match b,c with|I0,I0=>I0|R0,R0=>I0|_,_=>R0)|_=>R0)
 (λ i q=>match q with|.j0 j=>Pa i j|_=>R0)
 (λ m q=>match q with|.Y0 k=>Y1 m k|_=>R0)
 (λ m q=>match q with|.AG k=>Y1 m k|_=>R0)
 (λ q=>match q with|.B0=>I0|_=>R0)
 (λ _ _ f g q=>match q with|.A0 b r=>bif f b then g r else R0|_=>R0)
 (λ k _ _ f g q=>match q with|.kv k' b r=>bif Y1 k k' then(bif f b then g r else R0)else R0|_=>R0)
 (λ _ f q=>match q with|.Q0 l=>f l|_=>R0)
 (λ i q=>match q with|.J0 j=>Y1 i j|_=>R0)
 (λ i q=>match q with|.Z0 j=>Y1 i j|_=>R0)
 (λ _ _=>R0) (λ _ _=>R0) (λ _ _=>R0) p
def yq(o:AO):AO->I1:=match o with
 |.K4=>λ q=>match q with|.K4=>I0|_=>R0
 |.M1 l=>λ q=>match q with|.M1 m=>YM l m|_=>R0
 |.H2 l=>λ q=>match q with|.H2 m=>YM l m|_=>R0
 |.V6 l=>λ q=>match q with|.V6 m=>YM l m|_=>R0
 |.u7 c d=>λ q=>match q with|.u7 c' d'=>bif Y1 c c' then Y1 d d' else R0|_=>R0
 |.R4=>λ q=>match q with|.R4=>I0|_=>R0
 |_=>λ _=>R0
def uL:AO->I1
 |.K4=>I0
 |_=>R0
def P20(EV:K1)(K:C0)(ι:C0->C0)(σ:K1):I1:=
 bif pR K (λ j=>bif X6 (ι j) tJ then(bif uL (gN j)then I0 else yq (DV ι (gN j)) (AA (ι j)))else R0)then
  pR K (λ i=>bif uL (gN i)then I0 else pR i (λ j=>bif uL (gN j)then I0 else(bif Y1 (ι i) (ι j)then R0 else I0)))else R0
def HY:K1:=⟨(((((((((Se (.u7 693 1) 0).w8 (.V6 (.kv 1716665101378068231851647304238 (.J0 2) (.kv 1912560622601114663097907138635498125 (.Y0 1) (.kv 2644861503175544818025841171935613078797742710230483925 ((.Q0 (Gp (.Q0 (IS 0))))) (.kv 1912584653721662062459442856394687122 (.J0 6) (.kv 1912582937213711817717533567144559226 (.J0 9) (.kv 1716686671112994660760021893658 (.J0 10) (.kv 1912584653733987612828518699830608517 (.J0 11) (.kv 1912584653723202761268549962789618324 (.J0 12) (.kv 1716688211824249799044022927923 (.J0 13) (.kv 2946711608558749972067109827797935780332207413760206063338572 (.j0 (.N4 0)) (.kv 1540835715379308926534068 (.J0 14) (.kv 1912586370243478567442659852517835430 (.Q0 (.A0 (.Y0 1716666642074111563354414514736) (.A0 (.Q0 .B0) .B0))) .B0))))))))))))) 1).w8 (.u7 828 3) 2).w8 (.V6 (.kv 2130835426313518591802412128700436175454977 (.J0 4) (.kv 1540856458752192413630897 (.J0 15) (.kv 2373991449345118925378725513107526435137709081457 (.J0 16) (.kv 1540856458736056198103483 (.J0 17) (.kv 1912584653746313192238310373942559390 (.J0 18) (.kv 1716688211818718239147990712875 (.J0 19) (.kv 1912584653746313206067229353354724001 (.J0 20) (.kv 1912584653723202751588304318841356925 (.J0 21) .B0))))))))) 3).w8 (.u7 828 5) 4).w8 (.V6 (.kv 2130835426313518591802412128700436175454977 (.H0) (.kv 1540856458752192413630897 (.J0 22) (.kv 2373991449345118925378725513107526435137709081457 (.J0 23) (.kv 1540856458736056198103483 (.J0 24) (.kv 1912584653746313192238310373942559390 (.J0 25) (.kv 1716688211818718239147990712875 (.J0 26) (.kv 1912584653746313206067229353354724001 (.J0 27) (.kv 1912584653723202751588304318841356925 (.J0 28) (.kv 1540835715390480140927398 (.Z0 864) (.kv 1716688211807655114390935175711 (.J0 7) (.kv 2373991449312608362642297480911914725047577609049 (.J0 8) .B0)))))))))))) 5).w8 (.H2 (.kv 1114202 (.Q0 (.A0 (.Y0 1114179) .B0)) .B0)) 6).w8 (.H2 (.kv 1114197 (.Y0 1912586370229612303052652743982056108) (.kv 1114183 (.Y0 1540848161411727755903418) (.kv 1114179 (.Y0 1716689752510612883661577388586) .B0)))) 7).w8 (.H2 (.kv 1114197 (.Q0 (.A0 (.Q0 .B0) (.A0 (.Q0 (.A0 (.Y0 1114198) .B0)) .B0))) (.kv 1114183 (.Q0 (.A0 (.Q0 .B0) (.A0 (.Q0 (.A0 (.Y0 1114198) .B0)) .B0))) .B0))) 8),29,.B0,0,[]⟩
def we(σ:K1)(i:C0):C0:=match AA i with|.u7 _ d=>d|_=>0
def dB(σ:K1)(d x:C0):C0:=match AA d with|.V6 l=>(match H4 x l with|E0 (.J0 i)=>i|_=>0)|_=>0
def am(l:P0 C0):C0->C0:=@cL C0 (λ _=>C0->C0) (λ _=>0) (λ a _ ih i=>@VR (λ _=>C0) a (λ j _=>ih j) i) l
def fC0(σ:K1)(a cd w wd m md:C0):P0 C0:=[a,cd,w,wd,m,md,dB σ cd 1912584653721662062459442856394687122,dB σ md 1716688211807655114390935175711,dB σ md 2373991449312608362642297480911914725047577609049,dB σ cd 1912582937213711817717533567144559226,dB σ cd 1716686671112994660760021893658,dB σ cd 1912584653733987612828518699830608517,dB σ cd 1912584653723202761268549962789618324,dB σ cd 1716688211824249799044022927923,dB σ cd 1540835715379308926534068,dB σ wd 1540856458752192413630897,dB σ wd 2373991449345118925378725513107526435137709081457,dB σ wd 1540856458736056198103483,dB σ wd 1912584653746313192238310373942559390,dB σ wd 1716688211818718239147990712875,dB σ wd 1912584653746313206067229353354724001,dB σ wd 1912584653723202751588304318841356925,dB σ md 1540856458752192413630897,dB σ md 2373991449345118925378725513107526435137709081457,dB σ md 1540856458736056198103483,dB σ md 1912584653746313192238310373942559390,dB σ md 1716688211818718239147990712875,dB σ md 1912584653746313206067229353354724001,dB σ md 1912584653723202751588304318841356925]
def gC0(σ:K1)(a cd w wd m:C0):P0 C0:=fC0 σ a cd w wd m (we σ m)
def iC0(σ:K1)(a cd w wd:C0):P0 C0:=gC0 σ a cd w wd (dB σ wd 2130835426313518591802412128700436175454977)
def Th(σ:K1)(a:C0):P0 C0:=iC0 σ a (we σ a) (dB σ (we σ a) 1716665101378068231851647304238) (we σ (dB σ (we σ a) 1716665101378068231851647304238))
def Jb:C0:=29
structure Ad where
 infer:C0
 GW0:C0
def Uh:C0:=1383033027922952525
def IY:C0:=1716680508353713361107977503283
def JY:C0:=2644892361827981309523248531407596083753653009347511246
def QS(p:PV):Q1 C0:=match p with
 |.J0 i=>E0 i
 |_=>H0
def ZX(p:PV):Q1 C0:=match p with
 |.ty i=>E0 i
 |_=>H0
def wrP(p:PV):Q1 C0:=match p with
 |.wr i=>E0 i
 |_=>H0
def jC0(i:A2):Q1 C0:=match i with
 |.N4 n=>E0 n
 |_=>H0
def Lb(p:PV):Q1 C0:=match p with
 |.j0 i=>jC0 i
 |_=>H0
def Q20(p:PV):I1:=match p with
 |.Z0 _=>I0
 |.J0 _=>I0
 |_=>R0
def Ar(p:PV):Q1 (C0×PV×PV):=match p with
 |.kv k v r=>E0 (k,v,r)
 |_=>H0
def uy(o:AO):Q1 (C0×C0):=match o with
 |.u7 c d=>E0 (c,d)
 |_=>H0
def Br(o:AO):Q1 PV:=match o with
 |.V6 l=>E0 l
 |_=>H0
def Vh(o:AO):I1:=match o with
 |.R4=>I0
 |_=>R0
def a1(p:PV):Q1 PV:=(nH p).R6 λ x=>bif QM x.2 then E0 x.1 else H0
def a2(p:PV):Q1 (PV×PV):=(nH p).R6 λ x=>(a1 x.2).Y4 λ b=>(x.1,b)
def a3(p:PV):Q1 (PV×PV×PV):=(nH p).R6 λ x=>(a2 x.2).Y4 λ b=>(x.1,b)
def Cr(x:C0)(l:PV):Q1 (C0×PV):=(Ar l).R6 λ q=>bif Y1 q.1 x then(QS q.2.1).Y4 λ i=>(i,q.2.2)else H0
def Dr(S9:C0)(σ:K1)(o:AO):I1:=((uy o).R6 λ x=>bif Y1 x.1 S9 then(Br (AA x.2)).R6 λ l=>(Cr IY l).R6 λ q=>(Cr JY q.2).R6 λ r=>bif QM r.2 then E0 x.2 else H0 else H0).sL
def R20(p:PV)(σ:K1):Q1 (I7 PV):=(a2 p).R6 λ q=>(QS q.1).R6 λ i=>(Lb q.2).R6 λ n=>bif Vh (AA i)then(bif Y1 n 0 then H0 else bif O9 n 60 then E0 (.YH n λ d=> .x8 (.j0 (.N4 d)) σ)else H0)else H0
def S20(p:PV)(σ:K1):Q1 (I7 PV):=(a2 p).R6 λ q=>(QS q.1).R6 λ i=>(Lb q.2).R6 λ n=>bif Vh (AA i)then(bif O9 n 2 then E0 (.x8 (.ty D6) (eU (.OC (rL n) n)))else H0)else H0
def T20(S9:C0)(p:PV)(σ:K1):Q1 (I7 PV):=(a2 p).R6 λ q=>(QS q.1).R6 λ a=>(ZX q.2).R6 λ i=>bif Dr S9 σ (AA a)then E0 (.x8 (.ty i) σ)else H0
def U20(p:PV)(σ:K1):Q1 (I7 PV):=(a2 p).R6 λ q=>(ZX q.1).R6 λ i=>bif Q20 q.2 then E0 (.x8 (.ty i) σ)else H0
def V20(S9:C0)(p:PV)(σ:K1):Q1 (I7 PV):=(a3 p).R6 λ q=>(QS q.1).R6 λ a=>(i_ q.2.1).R6 λ l=>(a2 l).R6 λ x=>(LS x.1).R6 λ v=>(Lb x.2).R6 λ _=>(ZX q.2.2).R6 λ _=>
 bif Dr S9 σ (AA a)then(bif Y1 v Uh then E0 (.x8 (.N3 R0) σ)else H0)else H0
def W20(p:PV)(σ:K1):Q1 (I7 PV):=(a1 p).R6 λ q=>(ZX q).R6 λ _=>E0 (.x8 (.AG 2000) σ)
def X20(p:PV)(σ:K1):Q1 (I7 PV):=(a1 p).R6 λ q=>(ZX q).R6 λ i=>E0 (.x8 (.wr i) σ)
def Y20(p:PV)(σ:K1):Q1 (I7 PV):=(a2 p).R6 λ q=>(QS q.1).R6 λ a=>(wrP q.2).R6 λ i=>bif P20 HY Jb (am (Th σ a)) σ then E0 (.x8 (.ty i) σ)else H0
def c7(S9 tf k:C0)(L1:PV)(σ:K1):Q1 (I7 PV):=
 match k with
 |0=>R20 L1 σ
 |1=>S20 L1 σ
 |2=>T20 S9 L1 σ
 |3=>U20 L1 σ
 |4=>V20 S9 L1 σ
 |5=>W20 L1 σ
 |7=>X20 L1 σ
 |8=>Y20 L1 σ
 |_=>H0
def Wh:PV->I1
 |.N3 I0=>I0
 |_=>R0
inductive Er:PV->I1->Prop
 |no p:Er p R0
 |E6:Er (.N3 I0) I0
theorem Z20{p:PV}(h:Wh p=I0):p=.N3 I0:=by
 have sh:Er p (Wh p):=by
  cases p using P3 with
  |N3 b=>
   cases b using n7 with
   |I0=>exact .E6
   |R0=>exact .no _
  |_=>exact .no _
 rw[h]at sh;generalize hb:I0=b at sh;cases sh with
 |no=>contradiction
 |E6=>rfl
theorem ZF{a b:I1}(h:(bif a then b else R0)=I0):a=I0/\b=I0:=by cases a using n7<;>cases b using n7<;>first|exact⟨O,O⟩|contradiction
theorem KU{f:C0->I1}:∀{n:C0},pR n f=I0->∀i,i<n->f i=I0:=by
 intro n;induction n with
 |i9=>exact λ _ i h=>T3 h (NG i)
 |c9 n ih=>
  intro h i hi;obtain⟨h1,h2⟩:=ZF h;rcases Fh hi with q|O
  ·exact ih h2 i q
  ·exact h1
def RS(σ τ:K1)(k:C0):I1:=pR k λ i=>yq (AA i) (τ.n8 i)
def pA(c:PV->K1->I1)(o:I7 PV):I1:=@xz PV (λ _=>I1) (λ a s=>c a s) (λ _ _=>R0) (λ n _ ih=>pR n ih) (λ _=>R0) o
def SS:K1:=⟨.B0,0,.B0,0,[]⟩
def EB:C0->I1:=λ _=>R0
def jG:K1:=⟨Se .R4 0,1,.B0,0,[]⟩
noncomputable abbrev eN(x:U6)(l c d:C0):v0:=.Z3 (DA x) ⟨l,c,l,d⟩
noncomputable abbrev eI(i:A2)(l c d:C0):v0:=.G8 (.j0 i) 0 ⟨l,c,l,d⟩
noncomputable abbrev eB(b:I1)(l c d:C0):v0:=.G8 (.N3 b) 0 ⟨l,c,l,d⟩
noncomputable abbrev eS(o i:v0)(l c d:C0):v0:=.xC o i ⟨l,c,l,d⟩
noncomputable abbrev eO(op:tZ)(a b:v0)(l c d:C0):v0:=.H_ a op b ⟨l,c,l,d⟩
noncomputable abbrev eC(f:v0)(as:P0 v0)(l c d:C0):v0:=.B7 f as [] ⟨l,c,l,d⟩
noncomputable abbrev eQ(op:eE)(a b:v0)(l c d:C0):v0:=.RP a [op] [b] ⟨l,c,l,d⟩
end
section
def kI(n:C0):C:=.u0 (.j0 (.N4 n))
def kS(n:C0):C:=.u0 (.Y0 n)
def k0:C0:=0x19fd38c29af1fba57ad729ff6d1a68ee1bb220326
def k1:C0:=0x2330abaed5435e120d976d08ae092c5235702e337f44e01f55c17f1ff862f10420
def k2:C0:=0x1875d9a12aad177ff4c7e9023fc28b4102ba
def k3:C0:=0x1f2c506535c06839d13ca87c4c8575bcd8e1fc32d49771ad6ec30454
def k5:C0:=0x19fd38c29af1fba2c58b9af620b917a8fbbff0330
def k6:C0:=0x27ba61fa52c46a542d438c4a1819a395780a5ed2487a21122a3bf4f1b74386dbc7feeadf063a
def k7:C0:=0x211f175e4e22c2319db888560509844363a3eb7121a04ee9be907d23d04f3
def k8:C0:=0x19fd38c29af1fba57ad7159b61e6a9a2bbb660325
def k9:C0:=0x233140b77c9c89d0b6fe9a8cc58bb538fe06597cca16e1b73531f898e9036104d5
def k10:C0:=0x1d56e087528f02e12e5e225ad4558fcd19a880f67ed293c03df
def k11:C0:=0x15aae2491b9b3fcd6147fc0215
def k12:C0:=0x1b9d2cca9ed7d152567466fa6ee930257c160601fd0397
def k13:C0:=0x1b9d300a334ec80fbf41083e3bd024ccb98a09fd460387
def k14:C0:=0x1b9d300a334ec80fbf41083e3bd024ccb98d6cff4403a8
def k15:C0:=0x1d5704c4a98457c5a7b614b630110c0864a2a1bb3be3ed1040b
def k16:C0:=0x1d57030ae30018e84f8614b63011110d055624f673d4256041b
def k17:C0:=0x19fd41ee99083ba127e2fe6dcb00ffc62beeb0346
def k18:C0:=0x1d56eae1ff09ca21d917acd84b504d756022cdc3b3646b80439
def k19:C0:=0x1b9d230be04d6d5473685701b863a9c63a0b56f9f403af
def k20:C0:=0x1b9cf591ba0ed0e45b1fb62166211ada2959bdb9df02ca
def k21:C0:=0x1b9d17ad57c4b35941af992724a2d3d4f7ea99fc8b03be
def k22:C0:=0x19fd4375ef2baf6075cbb232bc6ad3517c5290351
def k23:C0:=0x211f30b1c263505f16b8557cc9b49f554c70726298df2422a617ad8150503
def k24:C0:=0x27ba9ebbae6847e8abb4d6f65a8034f1a701726ec397bd21f5d922047a4a5e2e6e4dff20065e
def k25:C0:=0x1b9d264b755723f620d832593cffe56e24e21804d803b0
def k26:C0:=0x14647ac0a7a2f20460145
def PE:C0:=0x15aad95d5281e3aee647fc0230
def k28:C0:=0x19fd4375ef2baf6075cbb232ce68c6d89c8d00367
def k29:C0:=0x1875f7d7b9659366e2f5640870d39adc02ff
def k30:C0:=0x1f2c599028cb03fa52d927ddbe34e7181f1c5cc0bbde550792c104cc
def k31:C0:=0x211f3e54d8528c663830c7e6219fb2705756aa5aaf626de6a371adea8051f
def k32:C0:=0x1b9d264b755723f620d718b2cfb5de42477a3c029603ca
def k33:C0:=0x170586f32f3b2627f7b2f8368ca027b
def k34:C0:=0x1f2c76e665b43d186b0cead39aef83ee1766b7febbd22aea95e004b4
def k35:C0:=0x1b9d300a347447b2e0659bad19246e09611acd0b6b03f0
def k36:C0:=0x1d57030ae382082f890f9e740f5be148527f60134f64ca10439
def k37:C0:=0x1b9d194d2255c949381e74b2a20e6aed4c472bfd4603b5
def k38:C0:=0x1f2c3a6486cd0ef33e7d3ff71009885071f1c321ac9893872a900374
def bJ:C0:=0x1464978a2f65d2c4b01b1
def Xh:C0:=1241311281316
def Yh:C0:=0x1331417a0ad300d4
def Zh:C0:=0x13313cf60a6d00d2
def ah:C0:=0x13313f380ae400d7
def qC:C0:=1241311281328
def bh:C0:=0x1331417a0ad300e0
def dh:C0:=0x13313cf60a6d00de
def fh:C0:=0x13313f380ae400e3
def jh:C0:=0x15aad95d538e91d66949b60236
def k49:C0:=0x23311d873afb2fbdd028bba2ae5a86c742de8e722b6337ca5e2c18f2cc27920564
def k50:C0:=0x1f2c7510fff9d6e811e9a9caa378ca07365f074107ea7d10969b04b9
def k51:C0:=0x1d57030ae19447dbce47637b4eb7d5aad8a7dbb728746630440
def k52:C0:=0x1d56e92836cbc44d9c2fddfcf16721e7a33daa0362c3ca00417
def k53:C0:=0x1d56e9283663d19a0d60d51a0ec4dec61ae63616ef62fcf041f
def k54:C0:=0x1705884dd4b11a7b90e2f83680f024d
def k55:C0:=0x1b9d194d2255c949381d4561dc1edbbb43b7ccf94a03a4
def k56:C0:=0x211f230eaaf6b35c7b118dd54753f6b831dcd4c95803005e6ba7bc63804e6
def k57:C0:=0x1f2c5b658c78cdb958ab4409f3d5f7fb2057a83fb92499f97bc70483
def k58:C0:=0x1f2c751100310fcf56d2013032138e493872525d9626d7b8894204a9
def k59:C0:=0x211f230eaaf6b35c7b118dd54753f6b831dcd4c9d25b7d27ee31fc83604f6
def k60:C0:=0x1d56f00f54d23cae9ff8c68ae5cf777991e59694f884960044b
def k61:C0:=0x1f2c60e5b92055c6adc33cf320951d4e2285bb26813f3fd7921704be
def k62:C0:=0x233129f29c45803be9704aedfb8c2848bfe488d189293e2a17a6c270a130670566
def k63:C0:=0x1b9d300a3241bd857570236356975bc58a266efa3803a4
def k64:C0:=0x256449c3ef644aa0d137d26c05f1c41b92cd694406c7922942cb3e6ce736ab097aa05e0
def k65:C0:=0x1875e3b35b3caec0a0d20cfd58db94d102f0
def k66:C0:=0x211f4047925888f1b0521f1425ef355db5734c90c1b73a42b076dd84804fd
def k67:C0:=0x19fd5ef9e89f42803da64a8082e816948c7af034d
def k68:C0:=0x1d56f6f67083022e91747fbc45e9adadd5be6f583ce361e0404
def k69:C0:=0x15aae9eea2e180e3f5484001fa
def k70:C0:=0x1b9cfa711916dd9d3cdbbb3025932be470109fbd3102cd
def k71:C0:=0x170599e83bae831de689ac26996025a
def k72:C0:=0x1875e3b35b3caec0a0d173753b81939f02fe
def k73:C0:=0x146469f5c4e281d49012f
def nK:C0:=0x14649057cdea82a09018f
def k75:C0:=0x1875f4f71907ef1398ed650fd3e8954802bd
def k76:C0:=0x19fd4fb09663282252f714775c54d8d25c67d0353
def k77:C0:=0x1f2c5b658e3294d983594773734af966e364537d605ba0678898049c
def k78:C0:=0x1875e0d2bb35b3cfece73a3a1761915d02e0
def k79:C0:=0x133187781672011d
def k80:C0:=0x133178cb150d0127
def k81:C0:=0x19fd5d7293a70f93b3c37dc223c373c20c9580345
def k82:C0:=0x1875fc28a94f8c3b0a5990ed1b07978a02d2
def k83:C0:=0x15aad81711351faa624796020e
def k84:C0:=0x1b9d230be096cd5721507b1f8eb1192e66f0c5065f03c6
def k85:C0:=0x1b9d17ad5793c8ba3b553f338da8ab4ea0f4c2fc8b03b1
def k86:C0:=0x19fd41ee9a1c77a110b4ce1b8ffe86905c705034d
def k87:C0:=0x1875a18500f50a0980fe5448a052840402b7
def iB:C0:=0x13318778171c014f
def k89:C0:=0x17057148d76187f01065fcb6248025d
def O7:C0:=0x15aae38f5c14e8c21746db0217
def V3:C0:=1114198
def k92:C0:=0x170572a37cd77c4c0f06b15629d025e
def cJ:C0:=1114199
def k94:C0:=0x1b9d160d8d7cfd6076a8187af2fc457ad605b1fbf203ad
def k95:C0:=0x1d56e9283781acd00a7bb04d5695ca08fbb03be99c746850435
def k96:C0:=0x211f3c621d4487a9ee8bcf769b6bff23748a9859bb5e049b846fdce5204e4
def k97:C0:=0x1b9d2e6a69fba71defa3870942bf590edca2450e7903d7
def k98:C0:=0x19fd58dc943459350aca506a71d08125bc903034e
def k99:C0:=0x19fd58dc9548952cd3bbc25269a1d4e73d11d0364
def kC0:C0:=0x1f2c599028cb03f8b30e34f281cea3911a3198134d865a2684be0488
def lC0:C0:=0x211f3497352c952af27944afb5b6a80cc31acffbe444955b0bfb3e64b051c
def mC0:C0:=0x19fd57553e83fe6f618b93bc8fe8889c2c6060347
def nC0:C0:=0x19fd41ee9abd9a857ab5b9a6d3fa66360c6280349
def oC0:C0:=0x1b9d160d8d4c12ca122dbdcdedaf2db934d9ee020e03bf
def pC0:C0:=0x27ba930ca5faea1ec4eafc2208cf55d9678c2faa06a8297cb7c29b4ed338c30a92dae8f2062b
def qC0:C0:=0x2fa7426a2a55268ac87abeefb1b1f41672dbcbb811a1b3f9d732fc690f3a1cd4cb8d3a3c4c552a23bcb44a60780
def rC0:C0:=0x13318adb16a50148
def US:C0:=1114221
def kh:C0:=0x1875e2430aac5e0f15569a87109b92f502ed
def Q2:C0:=0x14649057cdea82a0901af
def F6:C0:=0x1464a122b11752df401cb
def kG:C0:=0x1d56e087528f02e2b5b3bbb0b01ea0f5a00bee3ca673530040d
def lG:C0:=0x27ba61fa52c46a4be5ac7629ccd840c0f3f8d607073cb69cc8675309dd1696a95331e55c0639
def dJ:C0:=0x19fd38c29af1fbb9ca88c1c08d6ca4381c0fa0339
def mG:C0:=0x3928529607949eafdcdc4708516f1515eef678c06f1179f577148c698dcff36b489bc738def0f2baa092bf1bc6100c7cf3d44808c0
def fJ:C0:=0x1f2c506535c0683b7106d7bd19c51c4d06d86a87f83a89a57655046d
def j8:C0:=0x13317689151e0146
def jB:C0:=0x15aae9eea2e180e63748ea0228
def R8:C0:=0x14648df1ada242a2b01ab
def pK:C0:=0x1331853615fb014d
def ZM:C0:=0x170599e83b5cf2e04cad2136f3b029b
def oH:C0:=0x133177aa14a70141
def JA:C0:=0x13318bfc17b5014d
def MQ:C0:=0x15aaf2da6bae19135f4b2c0225
def U9:C0:=0x133187781672013d
def a20:C0:=0x15aad95d526eb2a39c4642020c
def QD:C0:=0x170599e83bae8334b0bef6d705c0297
def aM:C0:=0x1331865716610155
def nG:C0:=0x1464a122b074c2c0701b0
def G9:C0:=0x14648f24be20b2aa201a9
def QE:C0:=0x15aad95d52f509b6cd46db021e
def mh:C0:=0x133182f416a50153
def GV:C0:=0x15aaeb34e41b13f060490c021f
def qK:C0:=0x15aad95d51c1f9973145dc0214
def aF:C0:=1241372557536
def KY:C0:=0x15aaeb34e527c21a254aa40225
def Mb:C0:=0x170586f32ff2aad25b152826b50028f
def pH:C0:=0x1875ef35da959d9752af9e4b44cc9b530306
def nh:C0:=0x1875f7d7b8a2964f707b9ea2cae095ae02f8
def QC:C0:=0x15aaeb34e42e44f2a24895021a
def D3:C0:=0x14648df1ad7e22a4d01b8
def cA:C0:=0x15aad817115b81b48b48620222
def HV:C0:=0x19fd57553faf3f655a5d11da08e770ab7d150037a
def Hr:C0:=0x19fd575540395d4629e893b6c8ece90cbcbab036c
def sC0:C0:=0x15aaec7b25c7cd05d34a820232
def n5:C0:=0x146492bdeee762b3b01b2
def b20:C0:=1241313509495
def H6:C0:=0x14648f24bdc6629b401a6
def gJ:C0:=0x17059b42e1101371178d7b86ef70292
def P7:C0:=0x17059b42e1c7981cadfe5446d70028b
def wB:C0:=0x1464978a2f77e2c4b01b7
def GG:C0:=0x1b9d17ad580e136a52b5acdf007ab222c0d48c060a03d5
def VS:C0:=0x1d57030ae1e23dd3f3b92f04598a9ff6271bf30c0294278043b
def Nb:C0:=0x15aae9eea2e180f60549c70226
def Z6:C0:=0x15aad81711351faa624796022e
def w9:C0:=0x15aaec7b25c7ccf968492e022a
def Ir:C0:=0x1331877816830144
def tC0:C0:=0x15aad817115b81b48b4862021e
def Jr:C0:=0x15aaeb34e41b13e63747960215
def oE:C0:=0x17059b42e25654b7dc41c956fc3029e
def iJ:C0:=0x14649fefa171a2ec001d0
def bM:C0:=0x15aaeb34e4b49c0dba4b2c022b
def cM:C0:=0x14649fefa050a2cd301b2
def SD:C0:=0x1464a122b14d82d5b01bc
def c20:C0:=0x19fd4375ef2baf6075cbb232bb37c28acc42a034c
def Ob:C0:=0x15aad81710aec88ac64587020e
def XO:C0:=0x14649c566f89f2b1901a3
def NQ:C0:=0x170586f32ff2aad25b14dfe6a40027f
def jJ:C0:=0x170599e83bae831b806a1886bd80290
def uC0:C0:=0x3cb9fa4817104147040a759d0a2cb1a1b50d338e27930969e2952ff2712fb8038e4f50f53428f2b7df91be8e7ac432ded79b6b5260807e2
def d20:C0:=0x19fd4375ef2baf6075ca80558f3e9f700c4f60355
def qH:C0:=0x15aaeb34e54e242b144c3c0230
def vC0:C0:=0x1464a722023852f0401a0
def Kr:C0:=0x1875f6676a049374e7c25702a27f9ea5030b
def Lr:C0:=0x1d57030ae1ae448afcf8a553a2e6b270436ac579c0940ad041b
def YO:C0:=0x19fd38c29af1fbb9ca8847680aa3d0449bdb90329
def RC:C0:=0x15aad95d5281e39f1844cc020e
def oh:C0:=0x1705884dd4d9e2a78f8376a67fe026d
def kJ:C0:=0x1705947da6a29a83e5dc90b6cb5028b
def wC0:C0:=1114153
def xC0:C0:=1114147
def yC0:C0:=1114209
def GB:C0:=0x15aae9eea2e180ecfd49500222
def zC0:C0:=1114152
def AD0:C0:=1114146
def BD0:C0:=0x14643c615fa9e1e37017b
def CD0:C0:=0x14645df725df623ed016a
def e20:C0:=1114176
def DD0:C0:=1114205
def ED0:C0:=1241284542558
def FD0:C0:=1114207
def f20:C0:=1114154
def GD0:C0:=1241294569560
def Mr:C0:=0x146499f04f65d2be501b5
def g20:C0:=1241284542543
def HD0:C0:=1114155
def ID0:C0:=1114174
def ZO:C0:=0x19fd575540395d550f0453a66879c008ecedb0371
def dM:C0:=0x14649fefa13b72d9f01b1
def IV:C0:=0x1875f7d7b990e80b6f7597703aa398de02fd
def SA:C0:=0x15aaeb34e42e44f6054a93023b
def RE:C0:=0x1875f66769adea2429374a547c1d9afe02ff
def h20:C0:=0x1705947da62841fb1db8d366be90296
def H9:C0:=0x15aadd301701b7cd61480d0226
def JD0:C0:=0xa03444f79f04b2346484ab1bb2de756e67cb252a9e7665307daadb0475eea3d2069e452aa541161cf900196ddd41ab765e33b3cab8446756ea91898f0d47432a692c5e53fe97e99f51b1721d9419d905ec0185083926aa5a4275c05e7c20e68
def qh:C0:=0x15aad95d51d52a7f7c439a020b
def rH:C0:=0x15aadd3016ee86ce824884021e
def Q4:C0:=0x1875f4f71907ef1398ed650fd3e8954802dd
def uh:C0:=0x15aaf1942aae1917e34be70240
def vh:C0:=0x14648df1acffb29e701b4
def UD:C0:=0x15aae4d59dae70daed48fb021f
def lJ:C0:=0x15aae4d59f07e30ffc4bf80233
def bF:C0:=0x19fd4067445517e3fcd2d66b76d935937c914036d
def LY:C0:=0x133178cb15a6013e
def KD0:C0:=0x256393398daba44b2a3e58ea28430dbc9ee254e5b64c22cb5d5c67d47b62ca20fdd04df
def HG:C0:=0x15aad8171062047674433401f9
def wh:C0:=0x15aaec7b2687b72e774cd5022e
def rK:C0:=0x14648f24bdfc92bb201c7
def kB:C0:=1114229
def Pb:C0:=0x14648df1ada242a2b01a6
def cF:C0:=0x1875f66768eaed0dfd008b1a277299dd0301
def qE:C0:=0x1705884dd53fd717f2374606b94028d
def Nr:C0:=0x19fd41ee9a4a81aafaec3996cfe314e30cded0363
def WS:C0:=0x15aadaa3934850a03946a80217
def lD:C0:=0x17059b42e25654c6410562873e102aa
def XS:C0:=0x17059c9d87e0ad310c95bcd747a02b8
def rE:C0:=0x133178cb150d0147
def YS:C0:=0x14649fefa050a2c3a01bb
def ZS:C0:=1241371443415
def MY:C0:=0x15aaf2da6c0e0e1a254ab50231
def Pr:C0:=0x1705884dd5e2f7a656f66d469c9028a
def i20:C0:=0x1d5704c4a98457c5a7b614b65b65b99512e47ebbbe8461f043c
def I9:C0:=0x13318adb1793015c
def fM:C0:=0x1875f66768d542ba707db7ff1683993302fc
def aS:C0:=0x170586f330070eeac0863716aea0288
def j20:C0:=0x1b9d264b755723f620d832593cffe56e24e21804d803d0
def LD0:C0:=0x32a0bf63deccbe56141d82d512b78f77045e0ad0d98446f20e1b8ff4f7ef7ffa4ba82734d189b0b176c3472a1c57073c
def MD0:C0:=0x35cace8428afc8284144bc443c105999ed9b5bc4d0bc6e1a62ffe67c6001ec0890ccbaa4b92fa4f82367bdef458039f6d07af
def ND0:C0:=0x39277ec9188847f8ebe962d9c20c5cefd0fed84c139cbaad264a665e29290025d12d85dfc4c6b401450c1d22f21b0d8b731ddd07cd
def OD0:C0:=0x4d6452261de5a420c70e56806156b237fe8ba2f10c79bbecb75b2cbca7b280733c762aa7fa70a40666e4c64b45b35b3122e5a30293897ff239f521cf72aef4d099f
def Rr:C0:=0x15aad95d532e9cc8dd47eb0223
def PD0:C0:=0x68cb9c591d1809efcdf24709ab41130b60acacc2659f0499fe1cc719bcdaef37c664db6fbb5c8faeee999280e1e50d34857a06315ac398b11be96ff599bc162c962a690c76ecd74f5b8bf6650b2e
def SE:C0:=1241377013979
def QD0:C0:=0x3928636548ac4b3d72cfd79f2b29cf401e273441ee3daaedfd334cc1e268106d6e9669466e13f2d85baa4fae917b8641986f030807
def l20:C0:=0x1705884dd48852592ac2e6268b90278
def Tr:C0:=0x14649ebc90bd02e3801c4
def NY:C0:=1114215
def bS:C0:=0x15aad81710aec88d084499020b
def RD0:C0:=0x5cd5df12f89a2c50758058b58e2e1d63764ed4f5b6e4c3de11aea4b3523948b6366dc46c704a43eb9d9d2f2074d2719d6485630ecd1d55f3d6aaa497730eb390a4138f29ab42e60ad2
def SD0:C0:=0x3cbaed2e236d647c0eb0ac461b565ee6bcfda9688065a480b7b56161355aaf9ac686a6c43b8998e720927a641f8e27bd6a5a0cbf77a0839
def pG:C0:=0x170586f32f3b26292ac41936996028a
def c6:C0:=0x14648f24bd23d2882019c
def OQ:C0:=1114216
def qI:C0:=0x14648f24bd23d297001ab
def TD0:C0:=0x48d802f7f9342e303710e5864036aac2592f7d2b153db09cd19323e7369e4e17bfebe55cb10724877256a98e5588b705fb4fcd457aa5d2a1b27466171508e8
def xh:C0:=0x13318bfc17b5012d
def m20:C0:=0x13318adb16e9014e
def n20:C0:=0x19fd4067445517e1478732fdf7af0e06cc4e5035b
def o20:C0:=0x1d56f00f54d23ca2655063d13b83f0919ac5704d67a3f9d0434
def Rb:C0:=0x17059c9d8671a3c0af5f08e705c02ac
def yh:C0:=0x1705884dd4b11a7b90e2f83680f026d
def OY:C0:=0x1464978a2f2fa2af701a1
def p20:C0:=0x1b9d2cca9de33c2031af7f0f354f12505537a102fc03ce
def Sb:C0:=0x1875fc28a94f8c5c2cfb5cd5ba349c1f0302
def gM:C0:=0x1875ef35db01f158ed98ea5fa27f9e1d0318
def UD0:C0:=0x39277ec918bae8530ef4078804d28cad5828800fd7debe091e7e05440cc0f2953022ea7f51e528bf225e94f66208496f29d05e0778
def q20:C0:=0x17059b42e22d8c9ca8839ef70e40296
def VD0:C0:=0x96c7d14ec1b0dcec5f90eca89a88f7e27abb2a47e02a751464b90b84b18904052939e9e18349bda4664da7e740fe436aa1e1c17548533117af28dfa639c052900c4b7d836d0b4c88ada586a97011084d094da1a4ac34a6faea31680e19
def Ur:C0:=0x14648df1ada242a2b01a2
def r20:C0:=0x1b9d17ad5793c8c5bdd3a9d09e29821ae0e2b2f9c103a7
def WD0:C0:=0x15aa816db83785be2e32780179
def XD0:C0:=0x448dfb9c1583a69451794d7ba94f45b727e953de3c1c096d21ca83802bcc6dc37c0c5ca4efbcb97c66bdc9d32cdb9776a74db830421c4c5f328c008a4
def YD0:C0:=0x1b9d300a337fb29d81dd14f3ae364bcd11e45a04a503cc
def ZD0:C0:=0x211f3e54d90291c5aa162949a3f31e659d2a9e2f5e0489f00a962e4a2050f
def dS:C0:=0x19fd57553eb2086d1bf1b0d8717350953c9e00359
def qG:C0:=0x1875ef35d97bf73a99f85ee50b399aa90315
def RQ:C0:=0x14648df1acb77282d01a1
def Ub:C0:=0x15aae9eea2e180e3f54840021a
def s20:C0:=0x1705884dd53fd707275504069b80289
def aD0:C0:=0x1765b245b8d6658640ceb31c354697cd88706536f463d9dd43567e29c4f273a865b6e508ef23652254d01652b1c546869924d07fa6af772d8f0f3548c1b51801543bc09798893fd4221d6040763544c4aaafc4e6738ee23d481b14e8739454551fd0a89ce6593a8a35aa4ab6f5c6e86f362fad15c8db1a1e5d81617f0078c85fa312b0
def Vb:C0:=0x14648f24be20b2a5e019f
def bD0:C0:=0x35cba8d7bafd71c5f9749eaefd8e2071e96f3bc11ed494d369d1ac586e66ff73a7ea22d3141747588d29cdd3cb0cda9c90714
def cD0:C0:=0x2a363c3d80b60a549de4dfdb0011684c562170759e45afe6e2a46cbbb7364819c4b6d4c9125d705da
def t20:C0:=0x146498bd400862d3901ba
def dD0:C0:=0x1f2c5b658da886b4934b4536f02f2ebce31f9a02e60453fb6c0a03e7
def eD0:C0:=0x62a35fd39e0b86984833d0d28b798e360d7f282acd2d66695662c0b54e3492f1b9e4190fbdc2abca7f9428d428c7365465fe202e106136be8c69c0d9d0ea268030e75e3e3460140313b0b41
def fD0:C0:=0x575ff591261b16f5c1fe54d74f5dc06f02b6114df14086d315d69f744d1759f205dcc0c1d91d9a8ae8a30d50d932c6aee129aa79a729b56f6d294f68f8d3f7a6dfb85b5740a7d
def JV:C0:=0x170599e83bae831de689ac26996027a
def gD0:C0:=0x17059b42e1b33407e1bcd8f6c1c0285
def iD0:C0:=0x17059b42e124778849ede7e6e090294
def jD0:C0:=0x15aaeb34e501601a254bf80233
def kD0:C0:=0x1d57030ae2cc1fa5761aae16af59c1a2a744c07cbf94df5044c
def Wb:C0:=0x17059c9d8729287bdda2ea571e302a6
def lD0:C0:=0x40859db84518a05ff25b105797a84fb63152bd53c44d0ab6fed6d60fee23b7a0c9565ac8aad27f37cc85c893aae069137f46d8e25af7cdf90825
def KV:C0:=0x1875edc58af39eafcafaf13a482f99bb02f8
def PY:C0:=0x15aae9eea2e180ecfd49e90231
def u20:C0:=0x19fd4684998f2e07d98e6d9d0ab99a83dc8590369
def w20:C0:=0x1d56e9283781accb747d3acda866ff1e2ab4bb6f3d443bb0452
def Vr:C0:=0x17059b42e25654c3dae4d20734802a1
def Ai:C0:=0x15aaec7b2687b729f34cb3022d
def mD0:C0:=0x1705947da6284205e94abb16ce8029a
def sH:C0:=0x133180b216e90158
def x20:C0:=0x15aaf1942aae190a574994021e
def y20:C0:=0x1b9d34e991c414d488eddd450440e907546b8efe4503ab
def Ci:C0:=0x1331756814630139
def Wr:C0:=0x15aadaa3934850a039460f020c
def z20:C0:=0x1464978a2e68f2a6f01a8
def nD0:C0:=0x1705a0ad77c831caa51598b739d02a2
def oD0:C0:=0x133187781793015a
def pD0:C0:=0x170586f32f3b2626c4a2c2067ed027e
def qD0:C0:=0x15aaec7b2601601a254b4e0222
def rD0:C0:=0x146499f04f1d92b6e01b7
def sD0:C0:=0x15aad95d53083ac57a48a6021c
def tD0:C0:=0x1b9d230bdf4062ecb115bdf22404cdce1cedfcfbe103be
def uD0:C0:=0x1875e2430b9aafd02d55533e6304931702d8
def A30:C0:=0x15aae2491ac824aa6245870211
def vD0:C0:=0x1d56ec9bc60ff80328350684bf34d10a237a68867d83ec00434
def wD0:C0:=0x211f28e6dac0b6a74fc2246083d70e3901c311d89e7d42ea58315d6d2050e
def xD0:C0:=0x1f2c76e664a0209dd134f2d39cf2cea44444bc8432c2d5b98de804b4
def yD0:C0:=0x15aae9eea2e180f3c34a1c0224
def zD0:C0:=0x1875e3b35b3caec0a0d246905fa1950402f6
def AE0:C0:=0x15aaf2da6cf45a39c14c090235
def BE0:C0:=1114159
def CE0:C0:=0x15aad81711351f9bb54576020a
def Xr:C0:=0x1875f66768bf985b6bb07840dbcf96be02fa
def Yr:C0:=0x1b9d160d8d7cfd6076a884cea7d8a0f42710fbfb3703b9
def Zr:C0:=0x19fd60813c9a3e7ca8ff5a4469551712fca020352
def br:C0:=0x19fd575540395d5259baff8f46d9048ced0950361
def DE0:C0:=0x17059b42e124777fe47ba5e6bfa027d
def EE0:C0:=0x233129f29bc8d1b4ea1c3db2cede403f11eaea2f9db48f76534ba38cef21430557
def xB:C0:=0x1705884dd48852592ac40726ad90298
def B30:C0:=0x15aae4d59f07e3002e4a600222
def MV:C0:=0x133182f416a50157
def jr:C0:=0x17059b42e14d3faf7c4de7e6db40294
def C30:C0:=0x15aad95d51d52a7f7c43de0212
def sE:C0:=1114197
def aO:C0:=1114183
def tK:C0:=1114179
def Yb:C0:=1114217
def Zb:C0:=1114218
def D30:C0:=0x14647d26c70061d5a0114
def E30:C0:=0x14647e59d73691d8d0115
def FE0:C0:=0x2fa656f9da5148906506802323480007d39996cf50f986e00e09419a30c2fff56658c2bce9309dabe0b8b2d06ab
def gS:C0:=0x14649ebc903e92bc301b1
def F30:C0:=1114162
def GE0:C0:=1114163
def G30:C0:=1114200
def HE0:C0:=0x1464a122b0aaf2d0601c5
def H30:C0:=1114201
def Di:C0:=0x13318adb16e90146
def I30:C0:=0x146492bdeee762c2901b2
def Ei:C0:=0x211f230eaba6b8aaab2fc78a69a242dc75035db546e2920541c13817d0426
def gb:C0:=0x15aad95d5281e3adc546fd0225
def IE0:C0:=0x15aae61bdf2196a4bd3e8e0191
def bO:C0:=1241372557529
def iS:C0:=0x14648f24bda24297001a3
def NV:C0:=1114202
def OV:C0:=0x13318d1d16e90155
def kr:C0:=0x14648f24bdd872a5e01a7
def jb:C0:=0x14648df1acb77282d0197
def JE0:C0:=0x15aae9eea2e180e1b348400222
def Fi:C0:=0x15aaeb34e41b13f4e449fa0235
def J30:C0:=0x14648df1adea82b1901c1
def Gi:C0:=0x1331768915950142
def K30:C0:=0x14648f24bdc662aa201a9
inductive LT(α:Type)where
 |B0
 |S3(k:C0)(v:α)(l r:LT α)
def LT.l9{α:Type}(t:LT α)(d:α)(x:C0):α:=
 @lA0 α (λ _=>α) d (λ k v _ _ a b=>@O8 (λ _=>α) (@O8 (λ _=>α) b a (X6 x k)) v (Y1 x k)) t
def sr(x:C0)(l:P0 (C0×PV)):Q1 PV:=@cL (C0×PV) (λ _=>Q1 PV) B2 (λ p _ ih=>@O8 (λ _=>Q1 PV) ih (E0 p.2) (Y1 p.1 x)) l
def gL:P0 (C0×PV):=[(k0,(.Y0 k1)),(k2,.H0),(k3,.H0),(k5,.H0),(k6,(.Z0 6)),(k7,(.Z0 4)),(k8,(.Y0 k9)),(k10,.H0),(k11,(.Z0 21)),(k12,(.Z0 39)),(k13,(.Z0 52)),(k14,(.Z0 64)),(k15,(.Z0 76)),(k16,(.Z0 85)),(k17,(.Z0 92)),(k18,(.Z0 99)),(k19,(.Z0 106)),(k20,(.j0 (.N4 12))),(k21,(.Z0 113)),(k22,(.Z0 118)),(k23,(.Z0 125)),(k24,(.Z0 132)),(k25,(.Z0 173)),(k26,(.Q0 (.A0 (.Y0 PE) (.A0 (.Q0 .B0) .B0)))),(k28,(.Z0 186)),(k29,(.Z0 193)),(k30,(.Z0 198)),(k31,(.Z0 203)),(k32,(.Z0 210)),(k33,(.Z0 217)),(k34,(.Z0 224)),(k35,(.Z0 229)),(k36,(.Z0 236)),(k37,(.Z0 241)),(k38,(.Q0 (.A0 (.Y0 bJ) (.A0 (.Y0 Xh) (.A0 (.Y0 Yh) (.A0 (.Y0 Zh) (.A0 (.Y0 ah) (.A0 (.Y0 qC) (.A0 (.Y0 bh) (.A0 (.Y0 dh) (.A0 (.Y0 fh) (.A0 (.Y0 jh) .B0)))))))))))),(k49,(.Z0 247)),(k50,(.Z0 254)),(k51,(.Z0 261)),(k52,(.Z0 266)),(k53,(.Z0 273)),(k54,(.Z0 290)),(k55,(.Z0 299)),(k56,(.Z0 304)),(k57,(.Z0 309)),(k58,(.Z0 314)),(k59,(.Z0 319)),(k60,(.Z0 326)),(k61,(.Z0 333)),(k62,(.Z0 340)),(k63,(.Z0 347)),(k64,(.Z0 352)),(k65,(.Z0 359)),(k66,(.Z0 364)),(k67,(.Z0 371)),(k68,(.Z0 378)),(k69,(.Z0 456)),(k70,(.Q0 (.A0 (.Y0 Xh) (.A0 (.Y0 Yh) (.A0 (.Y0 Zh) (.A0 (.Y0 ah) (.A0 (.Y0 qC) (.A0 (.Y0 bh) (.A0 (.Y0 dh) (.A0 (.Y0 fh) (.A0 (.Y0 jh) .B0))))))))))),(k71,(.Z0 514)),(k72,(.Z0 526)),(k73,(.Y0 nK)),(k75,(.Z0 693)),(k76,(.Z0 702)),(k77,(.Z0 709)),(k78,(.Z0 716)),(k79,(.Z0 735)),(k80,(.Z0 756)),(k81,(.Z0 777)),(k82,(.Z0 799)),(k83,(.Z0 828)),(k84,(.Z0 839)),(k85,(.Z0 846)),(k86,(.Z0 853)),(k87,(.Q0 (.A0 (.Y0 iB) (.A0 (.Y0 qC) .B0)))),(k89,(.Q0 (.A0 (.Y0 O7) (.A0 (.Y0 V3) .B0)))),(k92,(.Q0 (.A0 (.Y0 O7) (.A0 (.Y0 cJ) .B0)))),(k94,(.Z0 864)),(k95,(.Z0 871)),(k96,(.Z0 878)),(k97,(.Z0 885)),(k98,(.Z0 892)),(k99,(.Z0 897)),(kC0,(.Z0 904)),(lC0,(.Z0 911)),(mC0,(.Z0 918)),(nC0,(.Z0 923)),(oC0,(.Z0 928)),(pC0,(.Z0 933)),(qC0,(.Z0 938)),(rC0,(.Z0 943))]
def gF(x:C0):Q1 PV:=sr x gL
def cl(l:C0):C0:=l
def ur:S:=(.A6 .M2 (.V1 (.Z1 kh (.F0 Q2)) (.F0 kh) (.V1 (.Z1 F6 (.F0 Q2)) (.F0 F6) .B0)))
def f85:S:=(.J3 (.S1 .ne (.w0 (.F0 j8) (kI 0)) (.w0 (.F0 jB) (kI 0))) (.U1 (.u0 .H0)) .B0 (.V1 (.F0 R8) (.w0 (.F0 j8) (kI 0)) (.J3 (.S1 .e8 (.F0 R8) (.Q0 (.A0 (kS iB) (.A0 (kS O7) (.A0 (kS pK) (.A0 (kS ZM) .B0)))))) (.U1 (.J7 (.S1 .eq (.w0 (.F0 j8) (kI 1)) (.w0 (.F0 jB) (kI 1))) (.M1 .B0) (.u0 .H0))) .B0 (.J3 (.S1 .eq (.F0 R8) (kS PE)) (.U1 (.J7 (.S1 .eq (.b1 .Y5 (.w0 (.F0 j8) (kI 1))) (.b1 .Y5 (.w0 (.F0 jB) (kI 1)))) (.mk .M1 (.iK (.w0 (.F0 j8) (kI 1)) (.w0 (.F0 jB) (kI 1)))) (.u0 .H0))) .B0 (.J3 (.S1 .eq (.F0 R8) (kS oH)) (.U1 (.J7 (.S1 .eq (.w0 (.F0 j8) (kI 2)) (.w0 (.F0 jB) (kI 2))) (.M1 (.A0 (.Q0 (.A0 (.w0 (.F0 j8) (kI 3)) (.A0 (.w0 (.F0 jB) (kI 3)) .B0))) .B0)) (.u0 .H0))) .B0 (.J3 (.S1 .eq (.F0 R8) (kS JA)) (.U1 (.M1 (.A0 (.Q0 (.A0 (.w0 (.F0 j8) (kI 1)) (.A0 (.w0 (.F0 jB) (kI 1)) .B0))) .B0))) .B0 (.J3 (.S1 .eq (.F0 R8) (kS MQ)) (.U1 (.J7 (.S1 .eq (.w0 (.F0 j8) (kI 2)) (.w0 (.F0 jB) (kI 2))) (.M1 (.A0 (.Q0 (.A0 (.w0 (.F0 j8) (kI 1)) (.A0 (.w0 (.F0 jB) (kI 1)) .B0))) .B0)) (.u0 .H0))) .B0 (.J3 (.S1 .eq (.F0 R8) (kS U9)) (.V1 (.F0 a20) (.C8 (.S1 .eq (.w0 (.F0 j8) (kI 1)) (.w0 (.F0 jB) (kI 1))) (.S1 .eq (.b1 .Y5 (.w0 (.F0 j8) (kI 3))) (.b1 .Y5 (.w0 (.F0 jB) (kI 3))))) (.U1 (.J7 (.F0 a20) (.mk .M1 (.iK (.w0 (.F0 j8) (kI 3)) (.w0 (.F0 jB) (kI 3)))) (.u0 .H0)))) .B0 (.U1 (.M1 .B0))))))))))
def f92:S:=(.V1 (.F0 QD) (kS aM) (.V1 (.F0 nG) (.M1 (.A0 (.Q0 (.A0 (.F0 j8) (.A0 (.F0 jB) .B0))) .B0)) (.CM (.S1 .ne (.F0 nG) (.M1 .B0)) (.V1 (.Q0 (.A0 (.F0 G9) (.A0 (.F0 QE) .B0))) (.E4 .bK mh (.F0 nG) .B0) (.V1 (.F0 GV) (.Q0 (.A0 (.w0 (.F0 G9) (kI 0)) (.A0 (.w0 (.F0 QE) (kI 0)) .B0))) (.J3 (.S1 .eq (.F0 G9) (.F0 QE)) .YB .B0 (.J3 (.S1 .e8 (kS pK) (.F0 GV)) (.V1 (.F0 QD) (kS qK) .B0) (.J3 (.S1 .e8 (kS ZM) (.F0 GV)) (.J3 (.or (.S1 .pI (.w0 (.F0 GV) (kI 0)) (.Q0 (.A0 (kS iB) (.A0 (kS ZM) .B0)))) (.S1 .pI (.w0 (.F0 GV) (kI 1)) (.Q0 (.A0 (kS iB) (.A0 (kS ZM) .B0))))) (.U1 (kS aF)) .B0 (.V1 (.F0 QD) (kS qK) .B0)) (.V1 (.F0 KY) (.K2 (.u0 (.Z0 85)) (.A0 (.F0 G9) (.A0 (.F0 QE) .B0))) (.J3 (.S1 .cG (.F0 KY) (.u0 .H0)) (.U1 (kS aF)) .B0 (.A6 (.E4 .dN Mb (.F0 nG) (.A0 (.F0 KY) .B0)) .B0))) .B0) .B0)))) (.U1 (.F0 QD)))))
def f99:S:=(.V1 (.F0 QD) (kS aM) (.V1 (.F0 nG) (.M1 (.A0 (.Q0 (.A0 (.F0 pH) (.A0 (.F0 nh) .B0))) .B0)) (.CM (.S1 .ne (.F0 nG) (.M1 .B0)) (.V1 (.Q0 (.A0 (.F0 G9) (.A0 (.F0 QE) .B0))) (.E4 .bK mh (.F0 nG) .B0) (.J3 (.C8 (.S1 .eq (.w0 (.F0 G9) (kI 0)) (kS O7)) (.S1 .e8 (.w0 (.F0 G9) (kI 1)) (.F0 QC))) (.V1 (.F0 D3) (kS aM) (.J3 (.S1 .e8 (.w0 (.F0 G9) (kI 1)) (.F0 cA)) (.V1 (.F0 D3) (.K2 (.u0 (.Z0 92)) (.A0 (.w0 (.F0 cA) (.w0 (.F0 G9) (kI 1))) (.A0 (.F0 QE) .B0))) .B0) (.V1 (.w0 (.F0 cA) (.w0 (.F0 G9) (kI 1))) (.F0 QE) .B0) .B0)) (.J3 (.S1 .e8 (.w0 (.F0 QE) (kI 0)) (.Q0 (.A0 (kS pK) (.A0 (kS ZM) .B0)))) (.V1 (.F0 D3) (.K2 (.u0 (.Z0 92)) (.A0 (.F0 G9) (.A0 (.F0 QE) .B0))) .B0) (.V1 (.F0 KY) (.K2 (.u0 (.Z0 85)) (.A0 (.F0 G9) (.A0 (.F0 QE) .B0))) (.V1 (.F0 D3) (.J7 (.S1 .cG (.F0 KY) (.u0 .H0)) (kS aF) (kS aM)) (.A6 (.E4 .dN Mb (.F0 nG) (.A0 (.or (.F0 KY) (.M1 .B0)) .B0)) .B0))) .B0) (.J3 (.S1 .eq (.F0 D3) (kS aF)) (.U1 (kS aF)) .B0 (.V1 (.F0 QD) (.J7 (.S1 .eq (.F0 D3) (kS qK)) (kS qK) (.F0 QD)) .B0)))) (.U1 (.F0 QD)))))
def KE0:S:=(.J3 (.S1 .ne (.b1 .Y5 (.F0 HV)) (.b1 .Y5 (.F0 Hr))) (.U1 (kS aF)) .B0 (.V1 (.F0 QD) (kS aM) (.OE (.Q0 (.A0 (.F0 pH) (.A0 (.F0 nh) .B0))) (.iK (.F0 HV) (.F0 Hr)) (.V1 (.F0 D3) (.K2 (.u0 (.Z0 99)) (.A0 (.F0 pH) (.A0 (.F0 nh) (.A0 (.F0 QC) (.A0 (.F0 cA) .B0))))) (.J3 (.S1 .eq (.F0 D3) (kS aF)) (.U1 (kS aF)) .B0 (.V1 (.F0 QD) (.J7 (.S1 .eq (.F0 D3) (kS qK)) (kS qK) (.F0 QD)) .B0))) (.U1 (.F0 QD)))))
def LE0:S:=(.U1 (.w0 (.E4 .fR sC0 (.F0 n5) (.A0 (kS b20) .B0)) (.u0 (.j0 (.KB 0)))))
def ME0:S:=(.U1 (.H7 (.F0 H6) (.Q0 (.A0 (.F0 H6) (.A0 (.F0 gJ) .B0))) .B0 (.S4 (.Z1 P7 (.F0 wB)))))
def NE0:S:=(.V1 (.F0 cA) (.H2 .B0) (.V1 (.F0 HV) (.Q0 (.A0 (.Z1 GG (.F0 wB)) .B0)) (.J3 (.S1 .gt (.b1 .Y5 (.F0 VS)) (kI 0)) (.V1 (.F0 HV) (.K6 .n6 (.mk .Q0 (.S4 (.Z1 VS (.F0 wB)))) (.F0 HV)) .B0) .B0 (.U1 (.Q0 (.A0 (.K2 (.u0 (.Z0 106)) (.A0 (.F0 HV) (.A0 (.K6 .n6 (.mk .Q0 (.S4 (.F0 VS))) (.Q0 (.A0 (.F0 V3) .B0))) (.A0 (.K2 (.u0 (.Z0 118)) (.A0 (.F0 wB) .B0)) (.A0 (.F0 cA) .B0))))) (.A0 (.F0 cA) .B0)))))))
def OE0:S:=(.J3 (.or (.C8 (.S1 .eq (.w0 (.F0 V3) (kI 0)) (kS oH)) (.eH (.w0 (.F0 V3) (kI 2)))) (.S1 .eq (.w0 (.F0 V3) (kI 0)) (kS Nb))) (.U1 (.M1 .B0)) .B0 (.J3 (.S1 .eq (.w0 (.F0 V3) (kI 0)) (kS PE)) (.U1 (.mk .M1 (.S4 (.w0 (.F0 V3) (kI 1))))) .B0 (.U1 (.J7 (.S1 .eq (.w0 (.F0 V3) (kI 0)) (kS MQ)) (.M1 (.A0 (.w0 (.F0 V3) (kI 1)) .B0)) (.u0 .H0)))))
def PE0:S:=(.V1 (.Z1 Z6 (.F0 Q2)) (.F0 Z6) (.V1 (.Z1 gJ (.F0 Q2)) (.F0 gJ) .B0))
def QE0:S:=(.J3 (.C8 (.S1 .eq (.w0 (.F0 V3) (kI 0)) (kS O7)) (.S1 .e8 (.F0 w9) (.E4 .l9 Ir (.Z1 gJ (.F0 Q2)) (.A0 (.w0 (.F0 V3) (kI 1)) (.A0 (.Q0 .B0) .B0))))) (.U1 (.Q0 (.A0 (kS tC0) (.A0 (.w0 (.F0 V3) (kI 1)) .B0)))) .B0 (.U1 (.u0 .H0)))
def RE0:S:=(.V1 (.F0 Jr) (.M1 .B0) (.OE (.Q0 (.A0 (.F0 H6) (.A0 (.F0 oE) .B0))) (.S4 (.Z1 P7 (.F0 wB))) (.J3 (.S1 .e8 (.F0 H6) (.F0 cA)) (.A6 (.E4 .dN Mb (.F0 Jr) (.A0 (.H7 (.Q0 (.A0 (.F0 w9) (.A0 (.w0 (.F0 cA) (.F0 H6)) .B0))) (.F0 w9) .B0 (.S4 (.F0 oE))) .B0)) .B0) .B0 .B0) (.U1 (.F0 Jr))))
def SE0:S:=(.V1 (.F0 iJ) (.M1 .B0) (.OE (.F0 wB) (.S4 (.Z1 bM (.Z1 Z6 (.F0 Q2)))) (.J3 (.S1 .eq (.Z1 w9 (.F0 wB)) (.F0 w9)) (.V1 (.Q0 (.A0 (.F0 QD) (.A0 (.F0 cA) .B0))) (.K2 (.u0 (.Z0 125)) (.A0 (.F0 wB) (.A0 (.F0 cM) (.A0 (.F0 V3) .B0)))) (.OE (.Q0 (.A0 (.F0 jB) (.A0 (.F0 SD) .B0))) (.S4 (.J7 (.S1 .ne (.F0 QD) (kS aF)) (.E4 .J5 c20 (.F0 Q2) (.A0 (.F0 wB) (.A0 (.F0 cA) .B0))) (.M1 .B0))) (.V1 (.F0 D3) (.E4 .J5 Ob (.F0 Q2) (.A0 (.F0 jB) (.A0 (.Q0 .B0) (.A0 (.F0 SD) (.A0 (.K6 .n6 (.F0 XO) (kI 1)) .B0))))) (.V1 (.F0 QD) (.J7 (.S1 .eq (.F0 D3) (kS aF)) (kS aF) (.J7 (.C8 (.S1 .eq (.F0 D3) (kS qK)) (.S1 .eq (.F0 QD) (kS aM))) (kS qK) (.F0 QD))) (.J3 (.S1 .eq (.F0 QD) (kS aF)) .ZB .B0 .B0))) (.J3 (.S1 .ne (.F0 QD) (kS aF)) (.A6 (.E4 .SI NQ (.F0 iJ) (.A0 (.Q0 (.A0 (.F0 QD) (.A0 (.Z1 jJ (.F0 wB)) (.A0 (.F0 cA) .B0)))) .B0)) .B0) .B0 .B0))) .B0 .B0) (.U1 (.F0 iJ))))
def TE0:S:=(.J3 (.S1 .gt (.F0 XO) (kI 12)) (.fC (.K2 (.u0 (.Z0 76)) (.A0 (.K6 .n6 (kS uC0) (.F0 w9)) .B0))) .B0 (.J3 (.S1 .mE (.E4 .J5 d20 (.F0 Q2) (.A0 (.F0 w9) (.A0 (.F0 V3) .B0))) (.u0 .H0)) (.U1 (kS aM)) .B0 (.J3 (.S1 .eq (.w0 (.F0 V3) (kI 0)) (kS pK)) (.U1 (kS qK)) .B0 (.V1 (.F0 qH) (.J7 (.S1 .eq (.K2 (.u0 (.Z0 113)) (.A0 (.F0 w9) .B0)) (kS vC0)) (.K2 (.u0 (.Z0 132)) (.A0 (.F0 V3) .B0)) (.u0 .H0)) (.J3 (.S1 .mE (.F0 qH) (.u0 .H0)) (.V1 (.F0 Kr) (.H7 (.E4 .J5 Ob (.F0 Q2) (.A0 (.F0 w9) (.A0 (.Q0 .B0) (.A0 (.F0 SD) (.A0 (.K6 .n6 (.F0 XO) (kI 1)) .B0))))) (.F0 SD) .B0 (.S4 (.F0 qH))) (.U1 (.J7 (.S1 .e8 (kS aF) (.F0 Kr)) (kS aF) (.J7 (.S1 .e8 (kS qK) (.F0 Kr)) (kS qK) (kS aM))))) .B0 (.V1 (.F0 iJ) (.E4 .J5 Lr (.F0 Q2) (.A0 (.F0 w9) (.A0 (.F0 cM) (.A0 (.F0 V3) (.A0 (.F0 XO) .B0))))) (.J3 (.S1 .eq (.F0 iJ) (.M1 .B0)) (.U1 (kS aF)) .B0 (.U1 (.J7 (.S1 .e8 (kS aM) (.H7 (.F0 QD) (.Q0 (.A0 (.F0 QD) (.A0 (.F0 jJ) (.A0 (.F0 cA) .B0)))) .B0 (.S4 (.F0 iJ)))) (kS aM) (kS qK))))))))))
def UE0:S:=(.V1 (.F0 R8) (.w0 (.F0 D3) (kI 0)) (.J3 (.S1 .eq (.F0 R8) (kS oH)) (.U1 (.Q0 (.A0 (.w0 (.F0 D3) (kI 3)) .B0))) .B0 (.J3 (.or (.S1 .eq (.F0 R8) (kS JA)) (.S1 .eq (.F0 R8) (kS MQ))) (.U1 (.Q0 (.A0 (.w0 (.F0 D3) (kI 1)) .B0))) .B0 (.J3 (.S1 .eq (.F0 R8) (kS PE)) (.U1 (.w0 (.F0 D3) (kI 1))) .B0 (.U1 (.J7 (.S1 .eq (.F0 R8) (kS U9)) (.w0 (.F0 D3) (kI 3)) (.Q0 .B0)))))))
def VE0:S:=(.V1 (.F0 R8) (.w0 (.F0 D3) (kI 0)) (.J3 (.S1 .eq (.F0 R8) (kS oH)) (.U1 (.Q0 (.A0 (kS oH) (.A0 (.w0 (.F0 D3) (kI 1)) (.A0 (.w0 (.F0 D3) (kI 2)) (.A0 (.w0 (.F0 qH) (kI 0)) .B0)))))) .B0 (.J3 (.S1 .eq (.F0 R8) (kS JA)) (.U1 (.Q0 (.A0 (kS JA) (.A0 (.w0 (.F0 qH) (kI 0)) .B0)))) .B0 (.J3 (.S1 .eq (.F0 R8) (kS MQ)) (.U1 (.Q0 (.A0 (kS MQ) (.A0 (.w0 (.F0 qH) (kI 0)) (.A0 (.w0 (.F0 D3) (kI 2)) .B0))))) .B0 (.J3 (.S1 .eq (.F0 R8) (kS PE)) (.U1 (.Q0 (.A0 (kS PE) (.A0 (.mk .Q0 (.S4 (.F0 qH))) .B0)))) .B0 (.U1 (.J7 (.S1 .eq (.F0 R8) (kS U9)) (.Q0 (.A0 (kS U9) (.A0 (.w0 (.F0 D3) (kI 1)) (.A0 (.w0 (.F0 D3) (kI 2)) (.A0 (.mk .Q0 (.S4 (.F0 qH))) .B0))))) (.F0 D3))))))))
def WE0:S:=(.J3 (.S1 .eq (.w0 (.F0 D3) (kI 0)) (kS O7)) (.U1 (.E4 .l9 Ir (.F0 RC) (.A0 (.w0 (.F0 D3) (kI 1)) (.A0 (.F0 D3) .B0)))) .B0 (.U1 (.K2 (.u0 (.Z0 193)) (.A0 (.F0 D3) (.A0 (.H7 (.K2 (.u0 (.Z0 198)) (.A0 (.F0 SD) (.A0 (.F0 RC) .B0))) (.F0 SD) .B0 (.S4 (.K2 (.u0 (.Z0 186)) (.A0 (.F0 D3) .B0)))) .B0)))))
def XE0:S:=(.J3 (.S1 .eq (.w0 (.F0 D3) (kI 0)) (kS oH)) (.V1 (.F0 D3) (.Q0 (.A0 (kS oH) (.A0 (.K2 (.F0 oh) (.A0 (.w0 (.F0 D3) (kI 1)) .B0)) (.A0 (.w0 (.F0 D3) (kI 2)) (.A0 (.w0 (.F0 D3) (kI 3)) .B0))))) .B0) (.J3 (.S1 .eq (.w0 (.F0 D3) (kI 0)) (kS U9)) (.V1 (.F0 D3) (.Q0 (.A0 (kS U9) (.A0 (.w0 (.F0 D3) (kI 1)) (.A0 (.mk .Q0 (.S4 (.H7 (.K2 (.F0 oh) (.A0 (.F0 kJ) .B0)) (.F0 kJ) .B0 (.S4 (.w0 (.F0 D3) (kI 2)))))) (.A0 (.w0 (.F0 D3) (kI 3)) .B0))))) .B0) .B0 .B0) (.U1 (.K2 (.u0 (.Z0 193)) (.A0 (.F0 D3) (.A0 (.H7 (.K2 (.u0 (.Z0 203)) (.A0 (.F0 SD) (.A0 (.F0 oh) .B0))) (.F0 SD) .B0 (.S4 (.K2 (.u0 (.Z0 186)) (.A0 (.F0 D3) .B0)))) .B0)))))
def YE0:S:=(.U1 (.u0 .H0))
def ZE0:S:=(.U1 (.K2 (.u0 (.Z0 203)) (.A0 (.F0 D3) (.A0 (.u0 (.Z0 210)) .B0))))
def aE0:S:=(.J3 (.S1 .cG (.F0 kJ) (.u0 .H0)) (.U1 (.u0 (.Y0 1))) .B0 (.U1 (.J7 .M2 (.F0 kJ) (.K6 .n6 (kS wC0) (.b1 .Y0 (.F0 kJ))))))
def bE0:S:=(.V1 (.F0 R8) (.w0 (.F0 D3) (kI 0)) (.J3 (.or (.S1 .eq (.F0 R8) (kS iB)) (.S1 .eq (.F0 R8) (kS O7))) (.U1 (.w0 (.F0 D3) (kI 1))) .B0 (.J3 (.S1 .eq (.F0 R8) (kS bJ)) (.U1 (kS bJ)) .B0 (.J3 (.S1 .eq (.F0 R8) (kS Nb)) (.U1 (kS xC0)) .B0 (.J3 (.or (.S1 .eq (.F0 R8) (kS pK)) (.S1 .eq (.F0 R8) (kS ZM))) (.U1 (kS yC0)) .B0 (.V1 (.F0 GB) (.H7 (.K2 (.u0 (.Z0 229)) (.A0 (.F0 SD) .B0)) (.F0 SD) .B0 (.S4 (.K2 (.u0 (.Z0 186)) (.A0 (.F0 D3) .B0)))) (.J3 (.S1 .eq (.F0 R8) (kS oH)) (.V1 (.F0 kJ) (.K2 (.u0 (.Z0 224)) (.A0 (.w0 (.F0 D3) (kI 1)) .B0)) (.U1 (.K6 .n6 (.K6 .n6 (.K6 .n6 (kS zC0) (.J7 (.S1 .ne (.F0 kJ) (.u0 (.Y0 1))) (.K6 .n6 (.F0 kJ) (kS AD0)) (.u0 (.Y0 1)))) (.J7 (.w0 (.F0 D3) (kI 2)) (kS BD0) (.u0 (.Y0 1)))) (.w0 (.F0 GB) (kI 0))))) .B0 (.J3 (.S1 .eq (.F0 R8) (kS JA)) (.U1 (.K6 .n6 (.K6 .n6 (kS CD0) (.w0 (.F0 GB) (kI 0))) (kS e20))) .B0 (.J3 (.S1 .eq (.F0 R8) (kS MQ)) (.U1 (.K6 .n6 (.K6 .n6 (.K6 .n6 (.K6 .n6 (kS DD0) (.w0 (.F0 GB) (kI 0))) (kS ED0)) (.b1 .Y0 (.w0 (.F0 D3) (kI 2)))) (kS FD0))) .B0 (.J3 (.S1 .eq (.F0 R8) (kS PE)) (.U1 (.J7 (.S1 .eq (.b1 .Y5 (.F0 GB)) (kI 1)) (.K6 .n6 (.K6 .n6 (kS f20) (.w0 (.F0 GB) (kI 0))) (kS GD0)) (.K6 .n6 (.K6 .n6 (kS f20) (.E4 .mP Mr (kS g20) (.A0 (.F0 GB) .B0))) (kS HD0)))) .B0 (.V1 (.F0 GB) (.K6 .n6 (.H7 (.K2 (.u0 (.Z0 224)) (.A0 (.F0 kJ) .B0)) (.F0 kJ) (.A0 (.S1 .mE (.F0 kJ) (.u0 .H0)) .B0) (.S4 (.w0 (.F0 D3) (kI 2)))) (.F0 GB)) (.U1 (.K6 .n6 (.w0 (.F0 D3) (kI 1)) (.J7 (.S1 .ne (.F0 GB) (.M1 .B0)) (.K6 .n6 (.K6 .n6 (kS ID0) (.E4 .mP Mr (kS g20) (.A0 (.F0 GB) .B0))) (kS e20)) (.u0 (.Y0 1))))))))))))))))
def cE0:S:=(.U1 (.w0 (.w0 (.Z1 ZO (.w0 (.Z1 dM (.F0 Z6)) (.w0 (.F0 D3) (kI 1)))) (.F0 IV)) (kI 2)))
def dE0:S:=(.J3 (.S1 .eq (.w0 (.F0 D3) (kI 0)) (kS PE)) (.U1 (.H7 (.Q0 (.A0 (.b1 .Y0 (.F0 US)) (.A0 (.F0 SD) .B0))) (.Q0 (.A0 (.F0 US) (.A0 (.F0 SD) .B0))) .B0 (.qX (.w0 (.F0 D3) (kI 1))))) .B0 (.J3 (.S1 .ne (.w0 (.F0 D3) (kI 0)) (kS U9)) (.U1 (.M1 .B0)) .B0 (.V1 (.F0 U9) (.w0 (.Z1 dM (.F0 Z6)) (.w0 (.F0 D3) (kI 1))) (.V1 (.F0 SA) (.mk .H2 (.iK (.Z1 P7 (.F0 U9)) (.w0 (.F0 D3) (kI 3)))) (.V1 (.F0 RE) (.mk .H2 (.iK (.Z1 RE (.F0 U9)) (.w0 (.F0 D3) (kI 2)))) (.g_ h20 (.U1 (.H7 (.Q0 (.A0 (.F0 H6) (.A0 (.K2 (.u0 (.Z0 198)) (.A0 (.K2 (.u0 (.Z0 203)) (.A0 (.F0 SD) (.A0 (.F0 h20) .B0))) (.A0 (.F0 SA) .B0))) .B0))) (.Q0 (.A0 (.F0 H6) (.A0 (.F0 SD) .B0))) .B0 (.S4 (.K2 (.u0 (.Z0 236)) (.A0 (.F0 D3) (.A0 (.F0 IV) (.A0 (.F0 Z6) .B0)))))))))))))
def eE0:S:=(.U1 (.mk .Q0 (.S4 (.H7 (.F0 H6) (.Q0 (.A0 (.F0 H6) (.A0 (.F0 RE) (.A0 (.F0 SA) .B0)))) .B0 (.S4 (.F0 H9))))))
def fE0:S:=(.J3 (.C8 (.S1 .ne (.F0 D3) (.Q0 .B0)) (.S1 .ne (.b1 .Y5 (.F0 D3)) (.b1 .Y5 (.F0 P7)))) (.fC (.K2 (.u0 (.Z0 64)) (.A0 (kS JD0) (.A0 (.F0 F6) .B0)))) .B0 (.V1 (.F0 cA) (.H2 .B0) (.OE (.F0 qh) (.Ma (.b1 .Y5 (.F0 P7))) (.V1 (.w0 (.F0 cA) (.w0 (.w0 (.F0 P7) (.F0 qh)) (kI 0))) (.J7 (.S1 .eq (.F0 D3) (.Q0 .B0)) (.E4 .J5 rH (.F0 Q4) .B0) (.E4 .J5 uh (.F0 Q4) (.A0 (.w0 (.F0 D3) (.F0 qh)) .B0))) .B0) (.U1 (.F0 cA)))))
def gE0:S:=(.OE (.Q0 (.A0 (.F0 H6) (.A0 (.F0 oE) .B0))) (.S4 (.F0 P7)) (.OE (.F0 w9) (.S4 (.F0 oE)) (.A6 (.E4 .SI NQ (.Z1 vh (.F0 Q4)) (.A0 (.Q0 (.A0 (.F0 w9) (.A0 (.Q0 .B0) (.A0 (.w0 (.F0 UD) (.F0 H6)) (.A0 (.F0 F6) .B0))))) .B0)) .B0) .B0) .B0)
def hE0:S:=(.OE (.Q0 (.A0 (.F0 w9) (.A0 (.F0 cM) (.A0 (.F0 V3) (.A0 (.F0 F6) .B0))))) (.S4 (.Z1 vh (.F0 Q4))) (.V1 (.F0 lJ) (.mk .Q0 (.S4 (.H7 (.E4 .J5 bF (.F0 Q4) (.A0 (.F0 LY) .B0)) (.F0 LY) .B0 (.S4 (.F0 cM))))) (.V1 (.F0 D3) (.E4 .J5 Ob (.K2 (.u0 (.Z0 173)) (.A0 (.Z1 Z6 (.F0 Q4)) (.A0 (.Z1 gJ (.F0 Q4)) .B0))) (.A0 (.F0 w9) (.A0 (.F0 lJ) (.A0 (.E4 .J5 bF (.F0 Q4) (.A0 (.F0 V3) .B0)) (.A0 (kI 0) .B0))))) (.J3 (.S1 .ne (.F0 D3) (kS aM)) (.fC (.K2 (.u0 (.Z0 76)) (.A0 (.K6 .n6 (kS KD0) (.F0 w9)) (.A0 (.F0 F6) .B0)))) .B0 .B0))) .B0)
def iE0:S:=(.V1 (.F0 HG) (.dE (.F0 H9) (.u0 .H0) (.u0 (.j0 (.KB 0)))) (.J3 (.S1 .eq (.F0 HG) (.Q0 .B0)) (.U1 (.u0 .H0)) .B0 (.V1 (.F0 wh) (.w0 (.w0 (.F0 HG) (kI 0)) (kI 0)) (.J3 (.C8 (.S1 .eq (.b1 .Y5 (.F0 HG)) (kI 1)) (.or (.S1 .eq (.F0 wh) (kS nK)) (.or (.S1 .e8 (.F0 wh) (.Z1 gJ (.F0 Q4))) (.S1 .e8 (.F0 wh) (.u0 (.Q0 (.A0 (.Y0 bJ) (.A0 (.Y0 Xh) (.A0 (.Y0 Yh) (.A0 (.Y0 Zh) (.A0 (.Y0 ah) (.A0 (.Y0 qC) (.A0 (.Y0 bh) (.A0 (.Y0 dh) (.A0 (.Y0 fh) (.A0 (.Y0 jh) .B0)))))))))))))))) (.U1 (.Q0 (.A0 (kS rK) (.A0 (.E4 .J5 uh (.F0 Q4) (.A0 (.Q0 (.A0 (kS n5) (.A0 (.F0 kB) (.A0 (.F0 HG) .B0)))) .B0)) .B0)))) .B0 (.OO (.V1 (.F0 n5) (.E4 .J5 Pb (.Z1 cF (.Z1 Z6 (.F0 Q4))) (.A0 (.Z1 qE (.F0 Q4)) (.A0 (.K2 (.u0 (.Z0 247)) (.A0 (.F0 HG) .B0)) (.A0 (kS rK) .B0)))) .B0) (.gU 52 .H0 .B0) (.J3 (.S1 .e8 (.F0 n5) (.Z1 oE (.Z1 Z6 (.F0 Q4)))) (.U1 (.Q0 (.A0 (kS w9) (.A0 (.F0 n5) .B0)))) .B0 (.J3 (.S1 .e8 (.F0 n5) (.Z1 dM (.Z1 Z6 (.F0 Q4)))) (.U1 (.Q0 (.A0 (kS rK) (.A0 (.E4 .J5 Nr (.F0 Q4) (.A0 (.F0 n5) (.A0 (.w0 (.w0 (.F0 HG) (.u0 (.j0 (.KB 0)))) (kI 2)) .B0))) .B0)))) .B0 (.U1 (.u0 .H0)))))))))
def jE0:S:=(.V1 (.Z1 WS (.F0 Q2)) (.F0 WS) (.V1 (.Z1 lD (.F0 Q2)) (.F0 lD) (.V1 (.Z1 XS (.F0 Q2)) (.F0 XS) .B0)))
def kE0:S:=(.V1 (.F0 lD) (.H7 (.K2 (.u0 (.Z0 217)) (.A0 (.K2 (.u0 (.Z0 198)) (.A0 (.F0 V3) (.A0 (.F0 UD) .B0))) .B0)) (.F0 V3) .B0 (.S4 (.Z1 lD (.F0 rE)))) (.U1 (.K2 (.u0 (.Z0 290)) (.A0 (.F0 WS) (.A0 (.F0 lD) (.A0 (.K2 (.u0 (.Z0 217)) (.A0 (.K2 (.u0 (.Z0 198)) (.A0 (.Z1 XS (.F0 rE)) (.A0 (.F0 UD) .B0))) .B0)) .B0))))))
def lE0:S:=(.V1 (.F0 rE) (.w0 (.Z1 YS (.Z1 Z6 (.F0 Q4))) (.F0 n5)) (.V1 (.F0 UD) (.K2 (.u0 (.Z0 254)) (.A0 (.F0 Q4) (.A0 (.Z1 P7 (.F0 rE)) (.A0 (.F0 D3) (.A0 (.F0 F6) .B0))))) (.A6 (.K2 (.u0 (.Z0 261)) (.A0 (.F0 Q4) (.A0 (.Z1 P7 (.F0 rE)) (.A0 (.F0 UD) (.A0 (.F0 F6) .B0))))) (.U1 (.K2 (.u0 (.Z0 299)) (.A0 (.F0 Q4) (.A0 (.F0 rE) (.A0 (.F0 UD) (.A0 (.Q0 (.A0 (kS ZS) (.A0 (.F0 n5) (.A0 (.mk .Q0 (.S4 (.H7 (.w0 (.F0 UD) (.F0 H6)) (.Q0 (.A0 (.F0 H6) (.A0 (.F0 oE) .B0))) .B0 (.S4 (.Z1 P7 (.F0 rE)))))) .B0)))) .B0)))))))))
def mE0:S:=(.V1 (.F0 rE) (.w0 (.Z1 YS (.Z1 Z6 (.F0 Q4))) (.F0 n5)) (.V1 (.F0 UD) (.K2 (.u0 (.Z0 254)) (.A0 (.F0 Q4) (.A0 (.Z1 P7 (.F0 wB)) (.A0 (.Q0 .B0) (.A0 (.F0 F6) .B0))))) (.A6 (.E4 .J5 MY (.F0 Q4) (.A0 (.K2 (.u0 (.Z0 217)) (.A0 (.K2 (.u0 (.Z0 198)) (.A0 (.Z1 GG (.F0 wB)) (.A0 (.F0 UD) .B0))) .B0)) (.A0 (.F0 V3) (.A0 (.F0 F6) .B0)))) (.A6 (.E4 .GF Pr (.F0 UD) (.A0 (.K2 (.u0 (.Z0 254)) (.A0 (.F0 Q4) (.A0 (.dE (.Z1 P7 (.F0 rE)) (.b1 .Y5 (.Z1 P7 (.F0 wB))) (.u0 .H0)) (.A0 (.F0 D3) (.A0 (.F0 F6) .B0))))) .B0)) (.A6 (.K2 (.u0 (.Z0 261)) (.A0 (.F0 Q4) (.A0 (.Z1 P7 (.F0 rE)) (.A0 (.F0 UD) (.A0 (.F0 F6) .B0))))) (.V1 (.F0 WS) (.Q0 (.A0 (kS ZS) (.A0 (.F0 n5) (.A0 (.mk .Q0 (.S4 (.H7 (.w0 (.F0 UD) (.F0 H6)) (.Q0 (.A0 (.F0 H6) (.A0 (.F0 oE) .B0))) .B0 (.S4 (.Z1 P7 (.F0 rE)))))) .B0)))) (.V1 (.w0 (.F0 UD) (kS nK)) (.F0 V3) (.U1 (.K2 (.u0 (.Z0 299)) (.A0 (.F0 Q4) (.A0 (.F0 rE) (.A0 (.F0 UD) (.A0 (.F0 WS) .B0)))))))))))))
def nE0:S:=(.V1 (.F0 lJ) (.mk .Q0 (.S4 (.H7 (.E4 .J5 bF (.F0 Q4) (.A0 (.F0 LY) .B0)) (.F0 LY) .B0 (.S4 (.F0 cM))))) (.V1 (.F0 V3) (.E4 .J5 bF (.F0 Q4) (.A0 (.F0 V3) .B0)) (.J3 (.or (.S1 .eq (.F0 lJ) (.Q0 .B0)) (.S1 .e8 (.w0 (.F0 V3) (kI 0)) (.Q0 (.A0 (kS pK) (.A0 (kS O7) .B0))))) (.U1 (.u0 .H0)) .B0 (.V1 (.F0 iJ) (.E4 .J5 Lr (.K2 (.u0 (.Z0 173)) (.A0 (.Z1 Z6 (.F0 Q4)) (.A0 (.Z1 gJ (.F0 Q4)) .B0))) (.A0 (.F0 w9) (.A0 (.F0 lJ) (.A0 (.F0 V3) (.A0 (kI 0) .B0))))) (.J3 (.S1 .eq (.b1 .Y5 (.F0 iJ)) (kI 1)) (.V1 (.Q0 (.A0 (.F0 wB) (.A0 (.F0 cA) .B0))) (.Q0 (.A0 (.w0 (.Z1 bM (.Z1 Z6 (.F0 Q4))) (.w0 (.w0 (.F0 iJ) (kI 0)) (kI 1))) (.A0 (.mk .H2 (.S4 (.w0 (.w0 (.F0 iJ) (kI 0)) (kI 2)))) .B0))) (.OE (.Q0 (.A0 (.F0 H6) (.A0 (.F0 oE) .B0))) (.S4 (.Z1 P7 (.F0 wB))) (.A6 (.E4 .CU i20 (.F0 cA) (.A0 (.F0 H6) (.A0 (.E4 .J5 rH (.F0 Q4) .B0) .B0))) .B0) (.OE (.Q0 (.A0 (.F0 LY) (.A0 (.F0 D3) .B0))) (.iK (.F0 lJ) (.Z1 VS (.F0 wB))) (.A6 (.E4 .J5 MY (.F0 Q4) (.A0 (.F0 LY) (.A0 (.K2 (.u0 (.Z0 217)) (.A0 (.K2 (.u0 (.Z0 198)) (.A0 (.F0 D3) (.A0 (.F0 cA) .B0))) .B0)) (.A0 (.F0 F6) .B0)))) .B0) .B0))) .B0 .B0)))))
def oE0:S:=(.V1 (.F0 I9) (.w0 (.Z1 oE (.Z1 Z6 (.F0 Q4))) (.F0 w9)) (.V1 (.F0 rE) (.w0 (.Z1 fM (.F0 I9)) (.F0 H6)) (.V1 (.F0 HG) (.K6 .n6 (kI 1) (.b1 .Y5 (.Z1 P7 (.F0 I9)))) (.V1 (.F0 UD) (.K2 (.u0 (.Z0 254)) (.A0 (.F0 Q4) (.A0 (.dE (.Z1 P7 (.F0 rE)) (kI 1) (.F0 HG)) (.A0 (.Q0 .B0) (.A0 (.F0 F6) .B0))))) (.A6 (.E4 .GF Pr (.F0 UD) (.A0 (.K2 (.u0 (.Z0 254)) (.A0 (.F0 Q4) (.A0 (.dE (.Z1 P7 (.F0 rE)) (.F0 HG) (.u0 .H0)) (.A0 (.F0 D3) (.A0 (.F0 F6) .B0))))) .B0)) (.A6 (.K2 (.u0 (.Z0 261)) (.A0 (.F0 Q4) (.A0 (.dE (.Z1 P7 (.F0 rE)) (kI 1) (.u0 .H0)) (.A0 (.F0 UD) (.A0 (.F0 F6) .B0))))) (.V1 (.F0 SA) (.mk .Q0 (.S4 (.H7 (.w0 (.F0 UD) (.F0 O7)) (.Q0 (.A0 (.F0 O7) (.A0 (.F0 oE) .B0))) .B0 (.S4 (.dE (.Z1 P7 (.F0 rE)) (kI 1) (.u0 .H0)))))) (.V1 (.w0 (.F0 UD) (kS nK)) (.F0 V3) (.V1 (.F0 cM) (.dE (.F0 SA) (.u0 .H0) (.b1 .Y5 (.Z1 P7 (.F0 I9)))) (.A6 (.K2 (.u0 (.Z0 314)) (.A0 (.F0 Q4) (.A0 (.F0 w9) (.A0 (.F0 cM) (.A0 (.F0 V3) (.A0 (.F0 F6) .B0)))))) (.A6 (.E4 .SI NQ (.Z1 vh (.F0 Q4)) (.A0 (.Q0 (.A0 (.F0 w9) (.A0 (.F0 cM) (.A0 (.F0 V3) (.A0 (.F0 F6) .B0))))) .B0)) (.U1 (.K2 (.u0 (.Z0 299)) (.A0 (.F0 Q4) (.A0 (.F0 rE) (.A0 (.F0 UD) (.A0 (.Q0 (.A0 (kS aS) (.A0 (.F0 w9) (.A0 (.F0 H6) (.A0 (.F0 V3) (.A0 (.F0 SA) .B0)))))) .B0)))))))))))))))))
def pE0:S:=(.V1 (.F0 cA) (.M1 .B0) (.OE (.F0 wB) (.S4 (.Z1 bM (.Z1 Z6 (.F0 Q4)))) (.J3 (.C8 (.S1 .cG (.Z1 w9 (.F0 wB)) (.u0 .H0)) (.C8 (.S1 .e8 (.F0 H6) (.Z1 fM (.F0 wB))) (.S1 .ne (.w0 (.K2 (.u0 (.Z0 125)) (.A0 (.F0 wB) (.A0 (.Q0 .B0) (.A0 (.F0 V3) .B0)))) (kI 0)) (kS aF)))) (.A6 (.E4 .SI NQ (.F0 cA) (.A0 (.F0 wB) .B0)) .B0) .B0 .B0) (.U1 (.F0 cA))))
def qE0:S:=(.V1 (.F0 j20) (.K2 (.u0 (.Z0 173)) (.A0 (.Z1 Z6 (.F0 Q4)) (.A0 (.Z1 gJ (.F0 Q4)) .B0))) (.V1 (.F0 cA) (.M1 .B0) (.OE (.F0 n5) (.S4 (.b1 .Mm (.Z1 oE (.Z1 Z6 (.F0 Q4))))) (.J3 (.C8 (.S1 .e8 (.F0 H6) (.Z1 fM (.w0 (.Z1 oE (.Z1 Z6 (.F0 Q4))) (.F0 n5)))) (.S1 .ne (.E4 .J5 Ob (.F0 j20) (.A0 (.F0 n5) (.A0 (.Q0 .B0) (.A0 (.F0 V3) (.A0 (kI 0) .B0))))) (kS aF))) (.A6 (.E4 .SI NQ (.F0 cA) (.A0 (.F0 n5) .B0)) .B0) .B0 .B0) (.U1 (.F0 cA)))))
def rE0:S:=(.V1 (.F0 V3) (.E4 .J5 bF (.F0 Q4) (.A0 (.F0 V3) .B0)) (.V1 (.F0 bM) (.K2 (.u0 (.Z0 326)) (.A0 (.F0 Q4) (.A0 (.F0 V3) (.A0 (.F0 H6) .B0)))) (.J3 (.S1 .eq (.b1 .Y5 (.F0 bM)) (kI 1)) (.U1 (.K2 (.u0 (.Z0 309)) (.A0 (.F0 Q4) (.A0 (.w0 (.F0 bM) (kI 0)) (.A0 (.w0 (.Z1 fM (.w0 (.F0 bM) (kI 0))) (.F0 H6)) (.A0 (.F0 V3) (.A0 (.F0 D3) (.A0 (.F0 F6) .B0)))))))) .B0 (.J3 (.S1 .gt (.b1 .Y5 (.F0 bM)) (kI 1)) (.fC (.K2 (.u0 (.Z0 64)) (.A0 (.K6 .n6 (kS LD0) (.F0 H6)) (.A0 (.F0 F6) .B0)))) .B0 (.V1 (.F0 oE) (.K2 (.u0 (.Z0 333)) (.A0 (.F0 Q4) (.A0 (.F0 V3) (.A0 (.F0 H6) .B0)))) (.J3 (.S1 .eq (.b1 .Y5 (.F0 oE)) (kI 1)) (.U1 (.K2 (.u0 (.Z0 319)) (.A0 (.F0 Q4) (.A0 (.w0 (.F0 oE) (kI 0)) (.A0 (.F0 H6) (.A0 (.F0 V3) (.A0 (.F0 D3) (.A0 (.F0 F6) .B0)))))))) .B0 (.fC (.K2 (.u0 (.Z0 64)) (.A0 (.K6 .n6 (.J7 (.S1 .ne (.F0 oE) (.M1 .B0)) (kS MD0) (kS ND0)) (.F0 H6)) (.A0 (.F0 F6) .B0))))))))))
def sE0:S:=(.V1 (.Q0 (.A0 (.F0 H6) (.A0 (.F0 RE) (.A0 (.F0 D3) .B0)))) (.w0 (.F0 H9) (.u0 (.j0 (.KB 0)))) (.V1 (.F0 HG) (.K2 (.u0 (.Z0 273)) (.A0 (.F0 Q4) (.A0 (.F0 kB) (.A0 (.F0 H9) .B0)))) (.J3 (.C8 (.S1 .mE (.F0 HG) (.u0 .H0)) (.S1 .eq (.w0 (.F0 HG) (kI 0)) (kS w9))) (.J3 (.S1 .pI (.F0 H6) (.Z1 fM (.w0 (.Z1 oE (.Z1 Z6 (.F0 Q4))) (.w0 (.F0 HG) (kI 1))))) (.fC (.K2 (.u0 (.Z0 52)) (.A0 (.K6 .n6 (kS OD0) (.F0 H6)) (.A0 (.F0 kB) .B0)))) .B0 (.U1 (.K2 (.u0 (.Z0 319)) (.A0 (.F0 Q4) (.A0 (.w0 (.F0 HG) (kI 1)) (.A0 (.F0 H6) (.A0 (.E4 .J5 rH (.F0 Q4) .B0) (.A0 (.F0 D3) (.A0 (.F0 kB) .B0))))))))) .B0 (.J3 (.S1 .mE (.F0 HG) (.u0 .H0)) (.U1 (.K2 (.u0 (.Z0 340)) (.A0 (.F0 Q4) (.A0 (.w0 (.F0 HG) (kI 1)) (.A0 (.F0 H6) (.A0 (.F0 D3) (.A0 (.F0 kB) .B0))))))) .B0 (.V1 (.F0 n5) (.E4 .J5 Pb (.Z1 cF (.Z1 Z6 (.F0 Q4))) (.A0 (.Z1 qE (.F0 Q4)) (.A0 (.K2 (.u0 (.Z0 247)) (.A0 (.F0 H9) .B0)) (.A0 (kS Rr) .B0)))) (.J3 (.S1 .pI (.F0 n5) (.Z1 YS (.Z1 Z6 (.F0 Q4)))) (.fC (.K2 (.u0 (.Z0 64)) (.A0 (.K6 .n6 (kS PD0) (.F0 n5)) (.A0 (.F0 kB) .B0)))) .B0 (.U1 (.K2 (.u0 (.Z0 304)) (.A0 (.F0 Q4) (.A0 (.F0 n5) (.A0 (.F0 D3) (.A0 (.F0 kB) .B0))))))))))))
def tE0:S:=(.J3 (.S1 .ne (.b1 .Y5 (.F0 lD)) (.b1 .Y5 (.F0 SE))) (.fC (.K2 (.u0 (.Z0 64)) (.A0 (.K6 .n6 (.b1 .Y0 (.b1 .Y5 (.F0 lD))) (kS QD0)) (.A0 (.F0 kB) .B0)))) .B0 (.U1 (.mk .Q0 (.S4 (.H7 (.E4 .J5 l20 (.F0 Q4) (.A0 (.E4 .J5 Tr (.F0 Q4) (.A0 (.F0 NY) (.A0 (.F0 V3) .B0))) (.A0 (.F0 V3) .B0))) (.Q0 (.A0 (.F0 NY) (.A0 (.F0 V3) .B0))) .B0 (.iK (.F0 SE) (.F0 lD)))))))
def uE0:S:=(.U1 (.w0 (.w0 (.Z1 ZO (.w0 (.Z1 dM (.Z1 Z6 (.F0 Q4))) (.F0 n5))) (.F0 jJ)) (kI 1)))
def vE0:S:=(.V1 (.Q0 (.A0 (.F0 R8) (.A0 (.F0 n5) (.A0 (.F0 jJ) (.A0 (.F0 D3) .B0))))) (.F0 bS) (.J3 (.S1 .ne (.K2 (.u0 (.Z0 359)) (.A0 (.F0 Q4) (.A0 (.F0 n5) (.A0 (.F0 jJ) .B0)))) (kS PE)) (.fC (.K2 (.u0 (.Z0 64)) (.A0 (kS RD0) (.A0 (.F0 kB) .B0)))) .B0 (.V1 (.F0 V3) (.E4 .J5 Nr (.F0 Q4) (.A0 (.F0 n5) (.A0 (.F0 D3) .B0))) (.V1 (.F0 lD) (.H7 (.K2 (.u0 (.Z0 217)) (.A0 (.F0 SD) .B0)) (.Q0 (.A0 (.F0 H6) (.A0 (.F0 SD) .B0))) .B0 (.S4 (.K2 (.u0 (.Z0 241)) (.A0 (.F0 V3) (.A0 (.F0 jJ) (.A0 (.Z1 Z6 (.F0 Q4)) .B0)))))) (.U1 (.Q0 (.A0 (kS U9) (.A0 (.F0 V3) (.A0 (.F0 kB) (.A0 (.F0 jJ) (.A0 (.mk .Q0 (.qX (.K2 (.u0 (.Z0 352)) (.A0 (.F0 Q4) (.A0 (.F0 kB) (.A0 (.F0 lD) (.A0 (.F0 SE) .B0))))))) .B0)))))))))))
def wE0:S:=(.J3 (.S1 .ne (.b1 .Y5 (.F0 SE)) (kI 1)) (.fC (.K2 (.u0 (.Z0 64)) (.A0 (kS SD0) (.A0 (.F0 kB) .B0)))) .B0 (.V1 (.F0 GB) (.J7 (.S1 .cG (.F0 pG) (.u0 .H0)) (.u0 .H0) (.E4 .J5 bF (.F0 Q4) (.A0 (.F0 pG) .B0))) (.V1 (.F0 c6) (.E4 .J5 Tr (.F0 Q4) (.A0 (.w0 (.F0 SE) (kI 0)) (.A0 (.J7 (.C8 (.S1 .mE (.F0 GB) (.u0 .H0)) (.S1 .eq (.w0 (.F0 GB) (kI 0)) (kS JA))) (.w0 (.F0 GB) (kI 1)) (.u0 .H0)) .B0))) (.U1 (.Q0 (.A0 (kS JA) (.A0 (.Q0 (.A0 (kS JA) (.A0 (.w0 (.F0 c6) (kI 1)) .B0))) (.A0 (.F0 kB) (.A0 (.F0 c6) .B0)))))))))
def xE0:S:=(.V1 (.Q0 (.A0 (.F0 R8) (.A0 (.F0 kB) (.A0 (.F0 OQ) (.A0 (.F0 SE) .B0))))) (.F0 qI) (.J3 (.S1 .ne (.w0 (.F0 OQ) (kI 0)) (kS n5)) (.fC (.K2 (.u0 (.Z0 64)) (.A0 (kS TD0) (.A0 (.F0 kB) .B0)))) .B0 (.V1 (.F0 H9) (.w0 (.F0 OQ) (kI 2)) (.J3 (.S1 .eq (.K2 (.u0 (.Z0 247)) (.A0 (.F0 H9) .B0)) (.Q0 (.A0 (kS xh) (.A0 (kS m20) .B0)))) (.U1 (.K2 (.u0 (.Z0 371)) (.A0 (.F0 Q4) (.A0 (.F0 kB) (.A0 (.F0 SE) (.A0 (.F0 n20) .B0)))))) .B0 (.V1 (.F0 bS) (.E4 .J5 o20 (.F0 Q4) (.A0 (.F0 H9) (.A0 (.F0 kB) .B0))) (.J3 (.C8 (.S1 .mE (.F0 bS) (.u0 .H0)) (.S1 .e8 (.w0 (.F0 bS) (kI 0)) (.Q0 (.A0 (kS IV) (.A0 (kS Rb) .B0))))) (.U1 (.K2 (.u0 (.Z0 364)) (.A0 (.F0 Q4) (.A0 (.F0 kB) (.A0 (.F0 bS) (.A0 (.F0 SE) .B0)))))) .B0 (.V1 (.F0 yh) (.K2 (.u0 (.Z0 347)) (.A0 (.F0 Q4) (.A0 (.F0 kB) (.A0 (.F0 H9) .B0)))) (.U1 (.Q0 (.A0 (kS OY) (.A0 (.Z1 XS (.F0 yh)) (.A0 (.F0 kB) (.A0 (.Z1 WS (.F0 yh)) (.A0 (.K2 (.u0 (.Z0 352)) (.A0 (.F0 Q4) (.A0 (.F0 kB) (.A0 (.Z1 lD (.F0 yh)) (.A0 (.F0 SE) .B0))))) .B0))))))))))))))
def yE0:S:=(.V1 (.Z1 lJ (.F0 Q2)) (.M1 .B0) (.V1 (.Z1 p20 (.F0 Q2)) (.M1 .B0) .B0))
def zE0:S:=(.A6 (.E4 .SI NQ (.Z1 lJ (.F0 Q2)) (.A0 (.u0 .H0) .B0)) (.A6 (.E4 .SI NQ (.Z1 p20 (.F0 Q2)) (.A0 (.u0 (.N3 R0)) .B0)) (.U1 (.Q0 (.A0 (kS pK) (.A0 (.K6 .w0 (.b1 .Y5 (.Z1 lJ (.F0 Q2))) (kI 1)) .B0))))))
def AF0:S:=(.CM (.C8 (.S1 .e8 (.w0 (.F0 D3) (kI 0)) (.Q0 (.A0 (kS pK) (.A0 (kS ZM) .B0)))) (.S1 .mE (.w0 (.Z1 lJ (.F0 Q2)) (.w0 (.F0 D3) (kI 1))) (.u0 .H0))) (.V1 (.F0 D3) (.w0 (.Z1 lJ (.F0 Q2)) (.w0 (.F0 D3) (kI 1))) .B0) (.U1 (.F0 D3)))
def BF0:S:=(.V1 (.F0 D3) (.E4 .J5 Sb (.F0 Q2) (.A0 (.F0 D3) .B0)) (.U1 (.K2 (.u0 (.Z0 193)) (.A0 (.F0 D3) (.A0 (.H7 (.E4 .J5 bF (.F0 Q2) (.A0 (.F0 SD) .B0)) (.F0 SD) .B0 (.S4 (.K2 (.u0 (.Z0 186)) (.A0 (.F0 D3) .B0)))) .B0)))))
def CF0:S:=(.V1 (.F0 nG) (.M1 (.A0 (.F0 D3) .B0)) (.CM (.S1 .ne (.F0 nG) (.M1 .B0)) (.V1 (.F0 G9) (.E4 .J5 Sb (.F0 Q2) (.A0 (.E4 .bK mh (.F0 nG) .B0) .B0)) (.J3 (.S1 .eq (.F0 G9) (.F0 gM)) (.U1 (.u0 (.N3 I0))) .B0 (.A6 (.E4 .dN Mb (.F0 nG) (.A0 (.K2 (.u0 (.Z0 186)) (.A0 (.F0 G9) .B0)) .B0)) .B0))) (.U1 (.u0 (.N3 R0)))))
def DF0:S:=(.J3 (.C8 (.S1 .eq (.w0 (.F0 gM) (kI 0)) (kS ZM)) (.S1 .pI (.w0 (.F0 D3) (kI 0)) (.Q0 (.A0 (kS iB) (.A0 (kS ZM) .B0))))) (.J3 (.S1 .eq (.w0 (.F0 D3) (kI 0)) (kS pK)) (.V1 (.w0 (.Z1 lJ (.F0 Q2)) (.w0 (.F0 D3) (kI 1))) (.F0 gM) (.U1 (.u0 .H0))) .B0 (.fC (.K2 (.u0 (.Z0 64)) (.A0 (.K6 .n6 (kS UD0) (.K2 (.u0 (.Z0 229)) (.A0 (.E4 .J5 bF (.F0 Q2) (.A0 (.F0 D3) .B0)) .B0))) .B0)))) .B0 (.J3 (.E4 .J5 q20 (.F0 Q2) (.A0 (.F0 gM) (.A0 (.F0 D3) .B0))) (.fC (.K2 (.u0 (.Z0 64)) (.A0 (kS VD0) .B0))) .B0 (.V1 (.w0 (.Z1 lJ (.F0 Q2)) (.w0 (.F0 gM) (kI 1))) (.F0 D3) .B0)))
def EF0:S:=(.J3 (.or (.S1 .ne (.w0 (.F0 j8) (kI 0)) (.w0 (.F0 jB) (kI 0))) (.S1 .ne (.b1 .Y5 (.K2 (.u0 (.Z0 186)) (.A0 (.F0 j8) .B0))) (.b1 .Y5 (.K2 (.u0 (.Z0 186)) (.A0 (.F0 jB) .B0))))) (.U1 (.u0 (.N3 R0))) .B0 (.J3 (.S1 .e8 (.w0 (.F0 j8) (kI 0)) (.Q0 (.A0 (kS iB) (.A0 (kS O7) (.A0 (kS U9) .B0))))) (.U1 (.S1 .eq (.w0 (.F0 j8) (kI 1)) (.w0 (.F0 jB) (kI 1)))) .B0 (.U1 (.J7 (.S1 .e8 (.w0 (.F0 j8) (kI 0)) (.Q0 (.A0 (kS oH) (.A0 (kS MQ) .B0)))) (.S1 .eq (.w0 (.F0 j8) (kI 2)) (.w0 (.F0 jB) (kI 2))) (.u0 (.N3 I0))))))
def FF0:S:=(.V1 (.F0 nG) (.M1 (.A0 (.Q0 (.A0 (.F0 j8) (.A0 (.F0 jB) .B0))) .B0)) (.CM (.S1 .ne (.F0 nG) (.M1 .B0)) (.V1 (.Q0 (.A0 (.F0 G9) (.A0 (.F0 QE) .B0))) (.E4 .bK mh (.F0 nG) .B0) (.V1 (.Q0 (.A0 (.F0 G9) (.A0 (.F0 QE) .B0))) (.Q0 (.A0 (.E4 .J5 Sb (.F0 Q2) (.A0 (.F0 G9) .B0)) (.A0 (.E4 .J5 Sb (.F0 Q2) (.A0 (.F0 QE) .B0)) .B0))) (.J3 (.S1 .eq (.F0 G9) (.F0 QE)) .YB .B0 (.J3 (.S1 .e8 (.w0 (.F0 G9) (kI 0)) (.Q0 (.A0 (kS pK) (.A0 (kS ZM) .B0)))) (.A6 (.E4 .J5 Ur (.F0 Q2) (.A0 (.F0 G9) (.A0 (.F0 QE) .B0))) .B0) (.J3 (.S1 .e8 (.w0 (.F0 QE) (kI 0)) (.Q0 (.A0 (kS pK) (.A0 (kS ZM) .B0)))) (.A6 (.E4 .J5 Ur (.F0 Q2) (.A0 (.F0 QE) (.A0 (.F0 G9) .B0))) .B0) (.J3 (.E4 .J5 r20 (.F0 Q2) (.A0 (.F0 G9) (.A0 (.F0 QE) .B0))) (.A6 (.E4 .dN Mb (.F0 nG) (.A0 (.uP (.mk .M1 (.iK (.K2 (.u0 (.Z0 186)) (.A0 (.F0 G9) .B0)) (.K2 (.u0 (.Z0 186)) (.A0 (.F0 QE) .B0))))) .B0)) .B0) (.V1 (.F0 D3) (.K6 .n6 (.K6 .n6 (.K2 (.u0 (.Z0 229)) (.A0 (.E4 .J5 bF (.F0 Q2) (.A0 (.F0 G9) .B0)) .B0)) (kS WD0)) (.K2 (.u0 (.Z0 229)) (.A0 (.E4 .J5 bF (.F0 Q2) (.A0 (.F0 QE) .B0)) .B0))) (.fC (.K2 (.u0 (.Z0 64)) (.A0 (.K6 .n6 (kS XD0) (.F0 D3)) .B0)))) .B0) .B0) .B0)))) .B0))
def GF0:S:=(.V1 (.Z1 cF (.F0 Q2)) (.F0 cF) (.V1 (.Z1 qE (.F0 Q2)) (.F0 qE) (.V1 (.Z1 dS (.F0 Q2)) (.F0 dS) (.V1 (.Z1 GG (.F0 Q2)) (.F0 GG) (.V1 (.Z1 rH (.F0 Q2)) (.F0 rH) .B0)))))
def HF0:S:=(.V1 (.Q0 (.A0 (.F0 R8) (.A0 (.F0 F6) .B0))) (.Q0 (.A0 (.w0 (.F0 qG) (kI 0)) (.A0 (.w0 (.F0 qG) (kI 1)) .B0))) (.J3 (.S1 .eq (.F0 R8) (kS n5)) (.U1 (.E4 .J5 n5 (.F0 Q2) (.A0 (.F0 F6) (.A0 (.w0 (.F0 qG) (kI 2)) .B0)))) .B0 (.J3 (.S1 .eq (.F0 R8) (kS oH)) (.U1 (.Q0 (.A0 (kS oH) (.A0 (.w0 (.F0 qG) (kI 2)) (.A0 (.w0 (.F0 qG) (kI 3)) (.A0 (.E4 .J5 RQ (.F0 Q2) (.A0 (.w0 (.F0 qG) (kI 4)) .B0)) .B0)))))) .B0 (.J3 (.S1 .eq (.F0 R8) (kS PE)) (.U1 (.Q0 (.A0 (kS PE) (.A0 (.mk .Q0 (.S4 (.H7 (.E4 .J5 RQ (.F0 Q2) (.A0 (.F0 j8) .B0)) (.F0 j8) .B0 (.S4 (.w0 (.F0 qG) (kI 2)))))) .B0)))) .B0 (.J3 (.S1 .eq (.F0 R8) (kS MQ)) (.U1 (.Q0 (.A0 (kS MQ) (.A0 (.E4 .J5 RQ (.F0 Q2) (.A0 (.w0 (.F0 qG) (kI 2)) .B0)) (.A0 (.w0 (.F0 qG) (kI 3)) .B0))))) .B0 (.J3 (.S1 .eq (.F0 R8) (kS Nb)) (.U1 (.Q0 (.A0 (kS Nb) .B0))) .B0 (.U1 (.E4 .J5 gM (.F0 Q2) .B0))))))))
def IF0:S:=(.U1 (.J7 (.S1 .cG (.Z1 rH (.F0 Q2)) (.u0 .H0)) (.Q0 (.A0 (kS Ub) .B0)) (.E4 .J5 rH (.F0 Q2) .B0)))
def JF0:S:=(.V1 (.F0 QC) (.mk .Q0 (.S4 (.H7 (.w0 (.F0 I9) (kI 0)) (.F0 I9) .B0 (.S4 (.F0 H9))))) (.J3 (.S1 .eq (.b1 .Y5 (.F0 H9)) (kI 1)) (.V1 (.F0 D3) (.E4 .J5 s20 (.F0 Q2) (.A0 (.F0 F6) (.A0 (.w0 (.F0 H9) (kI 0)) .B0))) (.J3 (.S1 .mE (.F0 D3) (.u0 .H0)) (.U1 (.F0 D3)) .B0 .B0)) .B0 (.OE (.F0 I9) (.S4 (.dE (.F0 H9) (.u0 .H0) (.u0 (.j0 (.KB 0))))) (.J3 (.or (.S1 .ne (.w0 (.F0 I9) (kI 1)) (.Q0 .B0)) (.S1 .ne (.w0 (.F0 I9) (kI 2)) (.Q0 .B0))) (.fC (.K2 (.u0 (.Z0 64)) (.A0 (kS aD0) (.A0 (.F0 F6) .B0)))) .B0 .B0) (.U1 (.E4 .J5 bS (.F0 Q2) (.A0 (.F0 F6) (.A0 (.F0 QC) (.A0 (.w0 (.F0 H9) (.u0 (.j0 (.KB 0)))) .B0))))))))
def KF0:S:=(.V1 (.Q0 (.A0 (.F0 H6) (.A0 (.F0 RE) (.A0 (.F0 SA) .B0)))) (.F0 I9) (.J3 (.C8 (.S1 .e8 (.F0 H6) (.Z1 dS (.F0 Q2))) (.S1 .ne (.F0 H6) (kS nK))) (.U1 (.E4 .J5 Vb (.F0 Q2) (.A0 (.F0 F6) (.A0 (.F0 I9) (.A0 (.Q0 (.A0 (kS O7) (.A0 (.F0 H6) .B0))) .B0))))) .B0 (.J3 (.C8 (.S1 .eq (.F0 H6) (kS nK)) (.S1 .mE (.Z1 GG (.F0 Q2)) (.u0 .H0))) (.U1 (.E4 .J5 Vb (.F0 Q2) (.A0 (.F0 F6) (.A0 (.F0 I9) (.A0 (.Z1 GG (.F0 Q2)) .B0))))) .B0 (.J3 (.S1 .e8 (.F0 H6) (.u0 (.Q0 (.A0 (.Y0 Xh) (.A0 (.Y0 Yh) (.A0 (.Y0 Zh) (.A0 (.Y0 ah) (.A0 (.Y0 qC) (.A0 (.Y0 bh) (.A0 (.Y0 dh) (.A0 (.Y0 fh) (.A0 (.Y0 jh) .B0)))))))))))) (.U1 (.E4 .J5 Vb (.F0 Q2) (.A0 (.F0 F6) (.A0 (.F0 I9) (.A0 (.Q0 (.A0 (kS iB) (.A0 (.F0 H6) .B0))) .B0))))) .B0 (.J3 (.S1 .eq (.F0 H6) (kS bJ)) (.U1 (.E4 .J5 Vb (.F0 Q2) (.A0 (.F0 F6) (.A0 (.F0 I9) (.A0 (.Q0 (.A0 (kS bJ) .B0)) .B0))))) .B0 (.J3 (.S1 .ne (.F0 H6) (kS xh)) (.U1 (.u0 .H0)) .B0 (.J3 (.or (.S1 .ne (.F0 RE) (.Q0 .B0)) (.S1 .gt (.b1 .Y5 (.F0 SA)) (kI 1))) (.fC (.K2 (.u0 (.Z0 64)) (.A0 (kS bD0) (.A0 (.F0 F6) .B0)))) .B0 (.U1 (.Q0 (.A0 (kS JA) (.A0 (.J7 (.S1 .ne (.F0 SA) (.Q0 .B0)) (.E4 .J5 RQ (.F0 Q2) (.A0 (.w0 (.F0 SA) (kI 0)) .B0)) (.E4 .J5 gM (.F0 Q2) .B0)) .B0)))))))))))
def LF0:S:=(.J3 (.or (.S1 .ne (.w0 (.F0 I9) (kI 1)) (.Q0 .B0)) (.S1 .ne (.w0 (.F0 I9) (kI 2)) (.Q0 .B0))) (.fC (.K2 (.u0 (.Z0 64)) (.A0 (.K6 .n6 (.w0 (.F0 I9) (kI 0)) (kS cD0)) (.A0 (.F0 F6) .B0)))) .B0 (.U1 (.F0 D3)))
def MF0:S:=(.V1 (.F0 n5) (.E4 .J5 Pb (.Z1 cF (.F0 Q2)) (.A0 (.Z1 qE (.F0 Q2)) (.A0 (.F0 QC) (.A0 (kS rK) (.A0 (.F0 F6) .B0))))) (.J3 (.S1 .pI (.w0 (.Z1 GV (.Z1 cF (.F0 Q2))) (.F0 n5)) (.Q0 (.A0 (kS Rb) (.A0 (kS t20) .B0)))) (.fC (.K2 (.u0 (.Z0 64)) (.A0 (.K6 .n6 (.F0 n5) (kS dD0)) (.A0 (.F0 F6) .B0)))) .B0 (.V1 (.Q0 (.A0 (.F0 RE) (.A0 (.F0 P7) .B0))) (.w0 (.Z1 dS (.Z1 cF (.F0 Q2))) (.F0 n5)) (.J3 (.C8 (.S1 .ne (.w0 (.F0 I9) (kI 1)) (.Q0 .B0)) (.S1 .ne (.b1 .Y5 (.w0 (.F0 I9) (kI 1))) (.b1 .Y5 (.F0 RE)))) (.fC (.K2 (.u0 (.Z0 64)) (.A0 (.K6 .n6 (.F0 n5) (kS eD0)) (.A0 (.F0 F6) .B0)))) .B0 (.J3 (.C8 (.S1 .ne (.w0 (.F0 I9) (kI 2)) (.Q0 .B0)) (.S1 .ne (.b1 .Y5 (.w0 (.F0 I9) (kI 2))) (.b1 .Y5 (.F0 P7)))) (.fC (.K2 (.u0 (.Z0 64)) (.A0 (.K6 .n6 (.F0 n5) (kS fD0)) (.A0 (.F0 F6) .B0)))) .B0 (.V1 (.F0 D3) (.J7 (.S1 .ne (.w0 (.F0 I9) (kI 1)) (.Q0 .B0)) (.mk .Q0 (.S4 (.w0 (.F0 I9) (kI 1)))) (.K6 .Ba (.Q0 (.A0 (.u0 .H0) .B0)) (.b1 .Y5 (.F0 RE)))) (.J3 (.S1 .ne (.w0 (.F0 I9) (kI 2)) (.Q0 .B0)) (.U1 (.Q0 (.A0 (kS U9) (.A0 (.F0 n5) (.A0 (.F0 D3) (.A0 (.mk .Q0 (.S4 (.H7 (.E4 .J5 RQ (.F0 Q2) (.A0 (.F0 j8) .B0)) (.F0 j8) .B0 (.S4 (.w0 (.F0 I9) (kI 2)))))) .B0)))))) .B0 (.U1 (.Q0 (.A0 (kS U9) (.A0 (.F0 n5) (.A0 (.F0 D3) (.A0 (.mk .Q0 (.S4 (.H7 (.E4 .J5 gM (.F0 Q2) .B0) (.F0 H6) .B0 (.S4 (.F0 P7))))) .B0)))))))))))))
def NF0:S:=(.U1 (.E4 .J5 RQ (.K2 (.u0 (.Z0 514)) (.A0 (.F0 cF) (.A0 (.F0 qE) (.A0 (.F0 dS) (.A0 (.F0 GG) (.A0 (.F0 rH) .B0)))))) (.A0 (.F0 qG) .B0)))
def OF0:S:=(.V1 (.Z1 Z6 (.F0 Q2)) (.F0 Z6) (.V1 (.Z1 qE (.F0 Q2)) (.F0 qE) (.V1 (.Z1 GG (.F0 Q2)) (.F0 GG) (.V1 (.Z1 gJ (.F0 Q2)) (.F0 gJ) (.V1 (.Z1 JV (.F0 Q2)) (.F0 JV) (.V1 (.Z1 Ub (.F0 Q2)) (.K2 (.u0 (.Z0 456)) .B0) (.V1 (.Z1 gD0 (.F0 Q2)) (.M1 .B0) (.V1 (.Z1 iD0 (.F0 Q2)) (.M1 (.A0 (.H2 .B0) .B0)) (.V1 (.Z1 jD0 (.F0 Q2)) (.M1 .B0) (.V1 (.Z1 kD0 (.F0 Q2)) (kI 0) (.V1 (.Z1 vh (.F0 Q2)) (.M1 .B0) (.V1 (.Z1 Wb (.F0 Q2)) (.u0 (.Q0 (.A0 (.Y0 PE) (.A0 (.Q0 .B0) .B0)))) .B0))))))))))))
def PF0:S:=(.U1 (.E4 .J5 RQ (.Z1 JV (.F0 Q2)) (.A0 (.F0 Q2) (.A0 (.F0 qI) (.A0 (.F0 pG) .B0)))))
def QF0:S:=(.U1 (.E4 .J5 rH (.Z1 Ub (.F0 Q2)) .B0))
def RF0:S:=(.U1 (.E4 .J5 bF (.Z1 Ub (.F0 Q2)) (.A0 (.F0 D3) .B0)))
def SF0:S:=(.OO (.A6 (.E4 .J5 MY (.Z1 Ub (.F0 Q2)) (.A0 (.F0 j8) (.A0 (.F0 jB) .B0))) .B0) (.lg 64 cA 64 kh F6 .B0) .B0)
def TF0:S:=(.V1 (.F0 QC) (.mk .M1 (.S4 (.Z1 gJ (.F0 Q2)))) (.U1 (.K2 (.u0 (.Z0 217)) (.A0 (.K2 (.u0 (.Z0 526)) (.A0 (.Z1 cF (.Z1 Z6 (.F0 Q2))) (.A0 (.Z1 qE (.F0 Q2)) (.A0 (.F0 QC) (.A0 (.Z1 GG (.F0 Q2)) (.A0 (.F0 qG) (.A0 (.Z1 rH (.F0 Q2)) .B0))))))) .B0))))
def UF0:S:=(.V1 (.F0 U9) (.w0 (.Z1 dM (.Z1 Z6 (.F0 Q2))) (.F0 n5)) (.J3 (.S1 .pI (.b1 .Y5 (.F0 D3)) (.Q0 (.A0 (kI 0) (.A0 (.b1 .Y5 (.Z1 P7 (.F0 U9))) .B0)))) (.fC (.K2 (.u0 (.Z0 64)) (.A0 (.K6 .n6 (.K6 .n6 (.b1 .Y0 (.b1 .Y5 (.Z1 P7 (.F0 U9)))) (kS lD0)) (.b1 .Y0 (.b1 .Y5 (.F0 D3)))) .B0))) .B0 (.V1 (.F0 SA) (.H7 (.E4 .J5 uh (.F0 Q2) (.A0 (.F0 qG) .B0)) (.F0 qG) .B0 (.S4 (.F0 D3))) (.J3 (.S1 .eq (.F0 SA) (.M1 .B0)) (.V1 (.F0 SA) (.H7 (.E4 .J5 rH (.F0 Q2) .B0) (.F0 H6) .B0 (.S4 (.Z1 P7 (.F0 U9)))) .B0) .B0 (.U1 (.Q0 (.A0 (kS U9) (.A0 (.F0 n5) (.A0 (.K6 .Ba (.Q0 (.A0 (.u0 .H0) .B0)) (.b1 .Y5 (.Z1 RE (.F0 U9)))) (.A0 (.mk .Q0 (.S4 (.F0 SA))) .B0))))))))))
def VF0:S:=(.V1 (.F0 D3) (.w0 (.w0 (.F0 H9) (.u0 (.j0 (.KB 0)))) (kI 2)) (.J3 (.C8 (.S1 .eq (.F0 D3) (.Q0 .B0)) (.C8 (.S1 .gt (.b1 .Y5 (.F0 H9)) (kI 1)) (.Z1 KV (.w0 (.Z1 dM (.Z1 Z6 (.F0 Q2))) (.F0 PY))))) (.V1 (.F0 D3) (.w0 (.w0 (.F0 H9) (.u0 (.j0 (.KB 1)))) (kI 2)) .B0) .B0 (.U1 (.F0 D3))))
def WF0:S:=(.J3 (.S1 .eq (.w0 (.w0 (.F0 H9) (kI 0)) (kI 0)) (kS nK)) (.U1 (.E4 .J5 u20 (.F0 Q2) (.A0 (.F0 H9) (.A0 (.F0 F6) .B0)))) .B0 (.OO (.V1 (.F0 n5) (.E4 .J5 Pb (.Z1 cF (.Z1 Z6 (.F0 Q2))) (.A0 (.Z1 qE (.F0 Q2)) (.A0 (.K2 (.u0 (.Z0 702)) (.A0 (.F0 H9) .B0)) (.A0 (kS Rr) (.A0 (.F0 F6) .B0))))) .B0) (.gU 52 .H0 .B0) (.J3 (.S1 .e8 (.F0 n5) (.Z1 ZO (.Z1 Z6 (.F0 Q2)))) (.V1 (.Q0 (.A0 (.F0 PY) (.A0 (.F0 jJ) .B0))) (.w0 (.Z1 ZO (.Z1 Z6 (.F0 Q2))) (.F0 n5)) (.V1 (.F0 R8) (.J7 (.Z1 KV (.w0 (.Z1 dM (.Z1 Z6 (.F0 Q2))) (.F0 PY))) (kS IV) (kS Rb)) (.U1 (.Q0 (.A0 (.F0 R8) (.A0 (.F0 PY) (.A0 (.F0 jJ) (.A0 (.E4 .J5 w20 (.F0 Q2) (.A0 (.F0 PY) (.A0 (.F0 H9) .B0))) .B0)))))))) .B0 (.J3 (.S1 .e8 (.F0 n5) (.Z1 Vr (.Z1 Z6 (.F0 Q2)))) (.V1 (.Q0 (.A0 (.F0 D3) (.A0 (.F0 c6) (.A0 (.F0 qE) .B0)))) (.w0 (.Z1 Vr (.Z1 Z6 (.F0 Q2))) (.F0 n5)) (.U1 (.Q0 (.A0 (kS Ai) (.A0 (.K2 (.u0 (.Z0 217)) (.A0 (.F0 D3) .B0)) (.A0 (.Q0 (.A0 (kS mD0) (.A0 (.F0 F6) (.A0 (.F0 qE) (.A0 (.F0 c6) .B0))))) (.A0 (.K2 (.u0 (.Z0 709)) (.A0 (.F0 c6) .B0)) .B0))))))) .B0 (.U1 (.u0 .H0))))))
def XF0:S:=(.V1 (.F0 sH) (.Z1 GG (.F0 Q2)) (.J3 (.or (.S1 .cG (.F0 sH) (.u0 .H0)) (.or (.S1 .ne (.w0 (.F0 sH) (kI 0)) (kS U9)) (.S1 .gt (.b1 .Y5 (.F0 H9)) (kI 2)))) (.U1 (.u0 .H0)) .B0 (.V1 (.F0 U9) (.w0 (.Z1 dM (.Z1 Z6 (.F0 Q2))) (.w0 (.F0 sH) (kI 1))) (.V1 (.F0 QC) (.H7 (.w0 (.F0 I9) (kI 0)) (.F0 I9) .B0 (.S4 (.Z1 ZO (.F0 U9)))) (.J3 (.C8 (.S1 .eq (.b1 .Y5 (.F0 H9)) (kI 1)) (.eH (.Z1 KV (.F0 U9)))) (.U1 (.Q0 (.A0 (kS Rb) (.A0 (.w0 (.F0 sH) (kI 1)) (.A0 (kI 0) (.A0 (.Q0 .B0) .B0)))))) .B0 (.J3 (.C8 (.S1 .eq (.b1 .Y5 (.F0 H9)) (kI 2)) (.C8 (.Z1 KV (.F0 U9)) (.S1 .e8 (.w0 (.w0 (.F0 H9) (kI 1)) (kI 0)) (.F0 QC)))) (.U1 (.Q0 (.A0 (kS IV) (.A0 (.w0 (.F0 sH) (kI 1)) (.A0 (.E4 .J5 x20 (.F0 QC) (.A0 (.w0 (.w0 (.F0 H9) (kI 1)) (kI 0)) .B0)) (.A0 (.Q0 .B0) .B0)))))) .B0 (.U1 (.u0 .H0))))))))
def YF0:S:=(.V1 (.Q0 (.A0 (.F0 G9) (.A0 (.F0 pG) .B0))) (.Q0 (.A0 (.E4 .J5 bF (.F0 Q2) (.A0 (.w0 (.F0 c6) (kI 1)) .B0)) (.A0 (.E4 .J5 bF (.F0 Q2) (.A0 (.F0 D3) .B0)) .B0))) (.J3 (.S1 .eq (.F0 G9) (.Q0 (.A0 (kS Nb) .B0))) (.U1 (.F0 c6)) .B0 (.J3 (.C8 (.S1 .eq (.w0 (.F0 G9) (kI 0)) (kS oH)) (.C8 (.S1 .eq (.w0 (.F0 pG) (kI 0)) (kS oH)) (.or (.w0 (.F0 G9) (kI 2)) (.eH (.w0 (.F0 pG) (kI 2)))))) (.V1 (.F0 c6) (.E4 .J5 y20 (.F0 Q2) (.A0 (.F0 c6) (.A0 (.F0 G9) (.A0 (.F0 pG) .B0)))) .B0) .B0 (.A6 (.E4 .J5 MY (.F0 Q2) (.A0 (.w0 (.F0 c6) (kI 1)) (.A0 (.F0 D3) (.A0 (.w0 (.F0 c6) (kI 2)) .B0)))) (.U1 (.F0 c6))))))
def ZF0:S:=(.V1 (.Q0 (.A0 (.F0 F6) (.A0 (.F0 GB) .B0))) (.Q0 (.A0 (.w0 (.F0 c6) (kI 2)) (.A0 (.w0 (.F0 G9) (kI 3)) .B0))) (.V1 (.F0 Ci) (.Q0 (.A0 (kS Wr) (.A0 (.F0 GB) (.A0 (.F0 F6) (.A0 (.F0 c6) .B0))))) (.V1 (.F0 z20) (.w0 (.w0 (.F0 pG) (kI 3)) (kI 0)) (.CM (.C8 (.S1 .e8 (.w0 (.F0 GB) (kI 0)) (.Q0 (.A0 (kS JA) (.A0 (kS oH) .B0)))) (.C8 (.S1 .pI (.F0 z20) (.Q0 (.A0 (.w0 (.F0 GB) (kI 0)) (.A0 (kS pK) .B0)))) (.or (.S1 .eq (.w0 (.F0 GB) (kI 0)) (kS JA)) (.eH (.w0 (.F0 pG) (kI 2)))))) (.V1 (.F0 GB) (.J7 (.S1 .eq (.w0 (.F0 GB) (kI 0)) (kS JA)) (.w0 (.F0 GB) (kI 1)) (.w0 (.F0 GB) (kI 3))) (.V1 (.F0 Ci) (.Q0 (.A0 (kS Wr) (.A0 (.F0 GB) (.A0 (.F0 F6) (.A0 (.F0 Ci) .B0))))) .B0)) (.J3 (.C8 (.S1 .eq (.F0 GB) (.w0 (.F0 G9) (kI 3))) (.C8 (.S1 .eq (.w0 (.F0 G9) (kI 2)) (.w0 (.F0 pG) (kI 2))) (.or (.eH (.w0 (.F0 G9) (kI 2))) (.eH (.K2 (.u0 (.Z0 716)) (.A0 (.F0 c6) .B0)))))) (.U1 (.F0 c6)) .B0 (.U1 (.Q0 (.A0 (kS nD0) (.A0 (.Q0 (.A0 (kS oH) (.A0 (.u0 .H0) (.A0 (.w0 (.F0 pG) (kI 2)) (.A0 (.F0 GB) .B0))))) (.A0 (.F0 F6) (.A0 (.J7 (.w0 (.F0 pG) (kI 2)) (kS oD0) (kS pD0)) (.A0 (.F0 Ci) .B0))))))))))))
def aF0:S:=(.U1 (.mk .Q0 (.S4 (.H7 (.F0 H6) (.Q0 (.A0 (.F0 H6) (.A0 (.F0 RE) (.A0 (.F0 SA) .B0)))) .B0 (.S4 (.F0 H9))))))
def bF0:S:=(.J3 (.S1 .e8 (.w0 (.F0 c6) (kI 0)) (.Q0 (.A0 (kS iB) (.A0 (kS bJ) .B0)))) (.U1 (.w0 (.F0 c6) (kI 2))) .B0 (.J3 (.C8 (.S1 .eq (.w0 (.F0 c6) (kI 0)) (kS AE0)) (.C8 (.S1 .eq (.w0 (.F0 c6) (kI 2)) (kS BE0)) (.S1 .eq (.w0 (.w0 (.F0 c6) (kI 3)) (kI 0)) (kS iB)))) (.U1 (.K6 .w0 (kI 0) (.w0 (.w0 (.F0 c6) (kI 3)) (kI 2)))) .B0 (.U1 (.u0 .H0))))
def cF0:S:=(.CM (.S1 .e8 (.w0 (.F0 c6) (kI 0)) (.Q0 (.A0 (kS CE0) (.A0 (kS x20) .B0)))) (.V1 (.F0 c6) (.w0 (.F0 c6) (kI 3)) .B0) (.U1 (.S1 .e8 (.w0 (.F0 c6) (kI 0)) (.Q0 (.A0 (kS A30) (.A0 (kS Wr) .B0))))))
def dF0:S:=(.V1 (.Z1 n5 (.F0 Q2)) (.F0 n5) (.V1 (.Z1 qE (.F0 Q2)) (.F0 qE) (.V1 (.Z1 RE (.F0 Q2)) (.F0 RE) (.V1 (.Z1 P7 (.F0 Q2)) (.F0 P7) (.V1 (.Z1 ZO (.F0 Q2)) (.F0 ZO) (.V1 (.Z1 Xr (.F0 Q2)) (.F0 Xr) (.V1 (.Z1 KV (.F0 Q2)) (.F0 KV) .B0)))))))
def eF0:S:=(.V1 (.Z1 n5 (.F0 Q2)) (.F0 n5) (.V1 (.Z1 RE (.F0 Q2)) (.F0 RE) (.V1 (.Z1 P7 (.F0 Q2)) (.F0 P7) (.V1 (.Z1 sH (.F0 Q2)) (.F0 sH) (.V1 (.Z1 lD (.F0 Q2)) (.F0 lD) (.V1 (.Z1 XS (.F0 Q2)) (.F0 XS) (.V1 (.Z1 Yr (.F0 Q2)) (.F0 Yr) (.V1 (.Z1 Zr (.F0 Q2)) (.F0 Zr) .B0))))))))
def fF0:S:=(.V1 (.Z1 n5 (.F0 Q2)) (.F0 n5) (.V1 (.Z1 P7 (.F0 Q2)) (.F0 P7) (.V1 (.Z1 fM (.F0 Q2)) (.F0 fM) (.V1 (.Z1 br (.F0 Q2)) (.F0 br) .B0))))
def gF0:S:=(.V1 (.Z1 jJ (.F0 Q2)) (.F0 jJ) (.V1 (.Z1 RE (.F0 Q2)) (.F0 RE) (.V1 (.Z1 P7 (.F0 Q2)) (.F0 P7) (.V1 (.Z1 w9 (.F0 Q2)) (.F0 w9) (.V1 (.Z1 VS (.F0 Q2)) (.F0 VS) (.V1 (.Z1 GG (.F0 Q2)) (.F0 GG) (.V1 (.Z1 fM (.F0 Q2)) (.F0 fM) (.V1 (.Z1 F6 (.F0 Q2)) (.F0 F6) .B0))))))))
def hF0:S:=(.V1 (.Z1 cF (.F0 Q2)) (.F0 cF) (.V1 (.Z1 dM (.F0 Q2)) (.H2 .B0) (.V1 (.Z1 ZO (.F0 Q2)) (.H2 .B0) (.V1 (.Z1 YS (.F0 Q2)) (.H2 .B0) (.V1 (.Z1 oE (.F0 Q2)) (.H2 .B0) (.V1 (.Z1 bM (.F0 Q2)) (.M1 .B0) (.V1 (.Z1 Vr (.F0 Q2)) (.H2 .B0) (.V1 (.Z1 DE0 (.F0 Q2)) (.H2 .B0) .B0))))))))
def Hi:S:=(.J3 (.S1 .gt (.w0 (.F0 xB) (kI 0)) (kI 0)) (.V1 (.F0 B30) .M2 (.V1 (.w0 (.F0 xB) (kI 0)) .M2 (.U1 (.F0 B30)))) .B0 (.V1 (.w0 (.F0 xB) (kI 1)) .M2 (.U1 .M2)))
def iF0:S:=(.U1 (.w0 (.F0 jr) (.K2 (.u0 (.Z0 846)) (.A0 (.F0 xB) (.A0 (.b1 .Y5 (.F0 jr)) .B0)))))
def jF0:S:=(.V1 (.F0 n5) (.E4 .mP Mr (kS b20) (.A0 (.F0 QC) .B0)) (.J3 (.S1 .pI (.F0 n5) (.J7 (.S1 .eq (.F0 C30) (kS rK)) (.M1 (.A0 (kS sE) (.A0 (kS aO) (.A0 (kS tK) .B0)))) (.M1 (.A0 (kS OQ) (.A0 (kS Yb) (.A0 (kS Zb) (.A0 (kS sE) (.A0 (kS D30) (.A0 (kS E30) .B0))))))))) (.fC (.K2 (.u0 (.Z0 52)) (.A0 (.K6 .n6 (kS FE0) (.F0 n5)) (.A0 (.F0 F6) .B0)))) .B0 (.U1 (.F0 n5))))
def kF0:S:=(.V1 (.Q0 (.A0 (.F0 Z6) (.A0 (.F0 gS) .B0))) (.Q0 (.A0 (.K2 (.u0 (.Z0 828)) (.A0 (.K2 (.u0 (.Z0 828)) .B0) .B0)) (.A0 (.M1 (.A0 (.Q0 (.A0 (kS V3) (.A0 (.Q0 .B0) .B0))) (.A0 (.Q0 (.A0 (kS cJ) (.A0 (.Q0 .B0) .B0))) .B0))) .B0))) (.V1 (.Z1 Pb (.Z1 cF (.F0 Z6))) (.u0 (.Z0 864)) (.V1 (.Z1 GV (.Z1 cF (.F0 Z6))) (.H2 (.A0 (kS sE) (.A0 (kS Rb) (.A0 (kS aO) (.A0 (kS t20) (.A0 (kS tK) (.A0 (kS w9) .B0))))))) (.V1 (.Z1 dS (.Z1 cF (.F0 Z6))) (.H2 (.A0 (kS sE) (.A0 (.Q0 (.A0 (.Q0 .B0) (.A0 (.Q0 (.A0 (kS V3) .B0)) .B0))) (.A0 (kS aO) (.A0 (.Q0 (.A0 (.Q0 .B0) (.A0 (.Q0 (.A0 (kS V3) .B0)) .B0))) .B0))))) (.V1 (.w0 (.Z1 dM (.F0 Z6)) (kS sE)) (.K2 (.u0 (.Z0 735)) (.A0 (kS sE) (.A0 (.Q0 .B0) (.A0 (.Q0 (.A0 (kS V3) .B0)) (.A0 (.M1 (.A0 (.Q0 (.A0 (kS sE) (.A0 (kS PE) (.A0 (.M1 (.A0 (.Q0 (.A0 (kS F30) (.A0 (.u0 (.Q0 (.A0 (.Y0 O7) (.A0 (.Y0 V3) .B0)))) .B0))) (.A0 (.Q0 (.A0 (kS GE0) (.A0 (.u0 (.Q0 (.A0 (.Y0 iB) (.A0 (.Y0 qC) .B0)))) .B0))) .B0))) .B0)))) .B0)) (.A0 (.u0 (.N3 R0)) .B0)))))) (.V1 (.w0 (.Z1 dM (.F0 Z6)) (kS aO)) (.K2 (.u0 (.Z0 735)) (.A0 (kS aO) (.A0 (.Q0 .B0) (.A0 (.Q0 (.A0 (kS V3) .B0)) (.A0 (.M1 (.A0 (.Q0 (.A0 (kS G30) (.A0 (kS HE0) (.A0 (.M1 .B0) .B0)))) (.A0 (.Q0 (.A0 (kS H30) (.A0 (kS PE) (.A0 (.M1 (.A0 (.Q0 (.A0 (kS F30) (.A0 (.Q0 (.A0 (kS JA) (.A0 (.u0 (.Q0 (.A0 (.Y0 O7) (.A0 (.Y0 V3) .B0)))) .B0))) .B0))) .B0)) .B0)))) .B0))) (.A0 (.u0 (.N3 I0)) .B0)))))) (.V1 (.Z1 ZO (.F0 Z6)) (.H2 (.A0 (kS sE) (.A0 (.Q0 (.A0 (kS sE) (.A0 (kI 0) .B0))) (.A0 (kS D30) (.A0 (.Q0 (.A0 (kS aO) (.A0 (kI 0) .B0))) (.A0 (kS E30) (.A0 (.Q0 (.A0 (kS aO) (.A0 (kI 1) .B0))) .B0))))))) (.V1 (.Q0 (.A0 (.F0 sH) (.A0 (.F0 Di) .B0))) (.Q0 (.A0 (.Q0 (.A0 (kS U9) (.A0 (kS sE) (.A0 (.Q0 .B0) (.A0 (.Q0 (.A0 (.u0 (.Q0 (.A0 (.Y0 O7) (.A0 (.Y0 V3) .B0)))) .B0)) .B0))))) (.A0 (.M1 (.A0 (.Q0 (.A0 (kS V3) (.A0 (.Q0 (.A0 (kS tK) .B0)) .B0))) .B0)) .B0))) (.V1 (.w0 (.Z1 YS (.F0 Z6)) (kS OQ)) (.K2 (.u0 (.Z0 756)) (.A0 (kS OQ) (.A0 (.Q0 .B0) (.A0 (.F0 Di) (.A0 (.F0 Di) (.A0 (.Q0 (.A0 (.u0 (.Q0 (.A0 (.Y0 O7) (.A0 (.Y0 V3) .B0)))) (.A0 (.u0 (.Q0 (.A0 (.Y0 iB) (.A0 (.Y0 qC) .B0)))) .B0))) (.A0 (.Q0 (.A0 (kS JA) (.A0 (.u0 (.Q0 (.A0 (.Y0 O7) (.A0 (.Y0 V3) .B0)))) .B0))) (.A0 (.u0 .H0) (.A0 (.u0 (.N3 I0)) .B0))))))))) (.V1 (.w0 (.Z1 YS (.F0 Z6)) (kS Yb)) (.K2 (.u0 (.Z0 756)) (.A0 (kS Yb) (.A0 (.Q0 .B0) (.A0 (.F0 gS) (.A0 (.F0 gS) (.A0 (.Q0 (.A0 (.Q0 (.A0 (kS JA) (.A0 (.u0 (.Q0 (.A0 (.Y0 O7) (.A0 (.Y0 V3) .B0)))) .B0))) (.A0 (.u0 (.Q0 (.A0 (.Y0 O7) (.A0 (.Y0 cJ) .B0)))) .B0))) (.A0 (.Q0 (.A0 (kS PE) (.A0 (.Q0 (.A0 (.u0 (.Q0 (.A0 (.Y0 O7) (.A0 (.Y0 cJ) .B0)))) (.A0 (.u0 (.Q0 (.A0 (.Y0 O7) (.A0 (.Y0 V3) .B0)))) .B0))) .B0))) (.A0 (.u0 .H0) (.A0 (.u0 (.N3 I0)) .B0))))))))) (.V1 (.w0 (.Z1 YS (.F0 Z6)) (kS Zb)) (.K2 (.u0 (.Z0 756)) (.A0 (kS Zb) (.A0 (.Q0 .B0) (.A0 (.M1 .B0) (.A0 (.M1 .B0) (.A0 (.Q0 .B0) (.A0 (.Q0 (.A0 (kS bJ) .B0)) (.A0 (.u0 .H0) (.A0 (.u0 (.N3 I0)) .B0))))))))) (.V1 (.Q0 (.A0 (.F0 I30) (.A0 (.F0 n5) .B0))) (.Q0 (.A0 (.Q0 (.A0 (.u0 (.Q0 (.A0 (.Y0 O7) (.A0 (.Y0 V3) .B0)))) (.A0 (.u0 (.Q0 (.A0 (.Y0 O7) (.A0 (.Y0 cJ) .B0)))) .B0))) (.A0 (kS Ei) .B0))) (.V1 (.w0 (.Z1 YS (.F0 Z6)) (.F0 n5)) (.K2 (.u0 (.Z0 756)) (.A0 (.F0 n5) (.A0 (.Q0 .B0) (.A0 (.F0 gS) (.A0 (.dE (.F0 gS) (kI 1) (.u0 .H0)) (.A0 (.F0 I30) (.A0 (.Q0 (.A0 (kS PE) (.A0 (.Q0 (.A0 (.F0 sH) (.A0 (.u0 (.Q0 (.A0 (.Y0 O7) (.A0 (.Y0 cJ) .B0)))) .B0))) .B0))) (.A0 (.u0 .H0) (.A0 (.u0 (.N3 I0)) .B0))))))))) (.V1 (.F0 gb) (.Q0 (.A0 (kS O7) (.A0 (kS nK) .B0))) (.V1 (.F0 j8) (.K2 (.u0 (.Z0 756)) (.A0 (kS IE0) (.A0 (.Q0 .B0) (.A0 (.M1 (.A0 (.Q0 (.A0 (kS nK) (.A0 (.Q0 (.A0 (kS tK) .B0)) .B0))) .B0)) (.A0 (.M1 .B0) (.A0 (.Q0 (.A0 (.F0 gb) (.A0 (.u0 (.Q0 (.A0 (.Y0 iB) (.A0 (.Y0 qC) .B0)))) .B0))) (.A0 (.Q0 (.A0 (kS JA) (.A0 (.F0 gb) .B0))) (.A0 (kS Rr) (.A0 (.u0 (.N3 R0)) .B0))))))))) (.V1 (.w0 (.Z1 oE (.F0 Z6)) (kS tK)) (.K2 (.u0 (.Z0 777)) (.A0 (kS tK) (.A0 (.Q0 .B0) (.A0 (.H2 (.A0 (kS bO) (.A0 (.F0 j8) .B0))) (.A0 (.H2 .B0) .B0))))) (.V1 (.Z1 bM (.F0 Z6)) (.M1 (.A0 (.K2 (.u0 (.Z0 799)) (.A0 (kI 0) (.A0 (.Q0 .B0) (.A0 (.M1 .B0) (.A0 (kS tK) (.A0 (.Q0 .B0) (.A0 (.u0 (.Q0 (.A0 (.Y0 iB) (.A0 (.Y0 qC) .B0)))) (.A0 (.H2 .B0) .B0)))))))) (.A0 (.K2 (.u0 (.Z0 799)) (.A0 (kI 1) (.A0 (.Q0 .B0) (.A0 (.F0 Di) (.A0 (kS tK) (.A0 (.Q0 .B0) (.A0 (.Q0 (.A0 (kS JA) (.A0 (.u0 (.Q0 (.A0 (.Y0 O7) (.A0 (.Y0 V3) .B0)))) .B0))) (.A0 (.H2 .B0) .B0)))))))) .B0))) (.A6 (.E4 .SI NQ (.Z1 bM (.F0 Z6)) (.A0 (.K2 (.u0 (.Z0 799)) (.A0 (kI 2) (.A0 (.Q0 .B0) (.A0 (.M1 (.A0 (.Q0 (.A0 (kS V3) (.A0 (.Q0 .B0) .B0))) .B0)) (.A0 (.u0 .H0) (.A0 (.Q0 .B0) (.A0 (.F0 sH) (.A0 (.H2 (.A0 (kS iS) (.A0 (kS Ei) .B0))) .B0)))))))) .B0)) (.U1 (.F0 Z6))))))))))))))))))))
def lF0:S:=(.V1 (.F0 JV) (.K2 (.u0 (.Z0 828)) .B0) (.V1 (.Z1 RQ (.F0 JV)) (.lA 0) (.U1 (.K2 (.u0 (.Z0 693)) (.A0 (.K2 (.u0 (.Z0 871)) .B0) (.A0 (.u0 (.Y0 1)) (.A0 (.Q0 (.A0 (kS U9) (.A0 (kS sE) (.A0 (.Q0 .B0) (.A0 (.Q0 (.A0 (.u0 (.Q0 (.A0 (.Y0 iB) (.A0 (.Y0 qC) .B0)))) .B0)) .B0))))) (.A0 (.H2 (.A0 (kS NV) (.A0 (.Q0 (.A0 (kS tK) .B0)) .B0))) (.A0 (.F0 JV) .B0)))))))))
def mF0:S:=(.V1 (.Q0 (.A0 (.F0 gS) (.A0 (.F0 sH) .B0))) (.Q0 (.A0 (.M1 (.A0 (kS V3) (.A0 (kS cJ) .B0))) (.A0 (.Q0 (.A0 (kS U9) (.A0 (kS sE) (.A0 (.Q0 .B0) (.A0 (.Q0 (.A0 (.u0 (.Q0 (.A0 (.Y0 O7) (.A0 (.Y0 V3) .B0)))) .B0)) .B0))))) .B0))) (.V1 (.F0 iS) (.M1 (.A0 (.Q0 (.A0 (kS ZS) (.A0 (kS Ei) .B0))) (.A0 (.F0 gS) (.A0 (.M1 (.A0 (.u0 (.Q0 (.A0 (.Y0 O7) (.A0 (.Y0 V3) .B0)))) (.A0 (.u0 (.Q0 (.A0 (.Y0 O7) (.A0 (.Y0 cJ) .B0)))) .B0))) (.A0 (.Q0 (.A0 (kS PE) (.A0 (.Q0 (.A0 (.F0 sH) (.A0 (.u0 (.Q0 (.A0 (.Y0 O7) (.A0 (.Y0 cJ) .B0)))) .B0))) .B0))) .B0))))) (.V1 (.F0 bO) (.M1 (.A0 (.M1 (.A0 (kS V3) .B0)) (.A0 (.M1 (.A0 (.u0 (.Q0 (.A0 (.Y0 O7) (.A0 (.Y0 V3) .B0)))) (.A0 (.u0 (.Q0 (.A0 (.Y0 iB) (.A0 (.Y0 qC) .B0)))) .B0))) (.A0 (.Q0 (.A0 (kS JA) (.A0 (.u0 (.Q0 (.A0 (.Y0 O7) (.A0 (.Y0 V3) .B0)))) .B0))) .B0)))) (.U1 (.M1 (.A0 (.M1 (.A0 (.M1 (.A0 (kS OQ) .B0)) (.A0 (.Q0 (.A0 (kS ZS) (.A0 (kS OQ) .B0))) (.A0 (.M1 (.A0 (kS V3) .B0)) (.A0 (.M1 (.A0 (.u0 (.Q0 (.A0 (.Y0 O7) (.A0 (.Y0 V3) .B0)))) (.A0 (.u0 (.Q0 (.A0 (.Y0 iB) (.A0 (.Y0 qC) .B0)))) .B0))) (.A0 (.Q0 (.A0 (kS JA) (.A0 (.u0 (.Q0 (.A0 (.Y0 O7) (.A0 (.Y0 V3) .B0)))) .B0))) .B0)))))) (.A0 (.M1 (.A0 (.M1 (.A0 (kS Yb) .B0)) (.A0 (.Q0 (.A0 (kS ZS) (.A0 (kS Yb) .B0))) (.A0 (.F0 gS) (.A0 (.M1 (.A0 (.Q0 (.A0 (kS JA) (.A0 (.u0 (.Q0 (.A0 (.Y0 O7) (.A0 (.Y0 V3) .B0)))) .B0))) (.A0 (.u0 (.Q0 (.A0 (.Y0 O7) (.A0 (.Y0 cJ) .B0)))) .B0))) (.A0 (.Q0 (.A0 (kS PE) (.A0 (.Q0 (.A0 (.u0 (.Q0 (.A0 (.Y0 O7) (.A0 (.Y0 cJ) .B0)))) (.A0 (.u0 (.Q0 (.A0 (.Y0 O7) (.A0 (.Y0 V3) .B0)))) .B0))) .B0))) .B0)))))) (.A0 (.M1 (.A0 (.M1 (.A0 (kS Zb) .B0)) (.A0 (.Q0 (.A0 (kS ZS) (.A0 (kS Zb) .B0))) (.A0 (.M1 .B0) (.A0 (.M1 .B0) (.A0 (.Q0 (.A0 (kS bJ) .B0)) .B0)))))) (.A0 (.M1 (.A0 (.M1 (.A0 (kS sE) .B0)) (.A0 (kI 0) (.A0 (.M1 (.A0 (kS V3) .B0)) (.A0 (.M1 (.A0 (.u0 (.Q0 (.A0 (.Y0 O7) (.A0 (.Y0 V3) .B0)))) (.A0 (.u0 (.Q0 (.A0 (.Y0 iB) (.A0 (.Y0 qC) .B0)))) .B0))) (.A0 (.F0 sH) .B0)))))) (.A0 (.M1 (.A0 (.M1 (.A0 (kS aO) (.A0 (kS H30) .B0))) (.A0 (kI 1) (.A0 (.M1 (.A0 (kS V3) .B0)) (.A0 (.M1 (.A0 (.Q0 (.A0 (kS JA) (.A0 (.u0 (.Q0 (.A0 (.Y0 O7) (.A0 (.Y0 V3) .B0)))) .B0))) .B0)) (.A0 (.Q0 (.A0 (kS U9) (.A0 (kS aO) (.A0 (.Q0 .B0) (.A0 (.Q0 (.A0 (.u0 (.Q0 (.A0 (.Y0 O7) (.A0 (.Y0 V3) .B0)))) .B0)) .B0))))) .B0)))))) (.A0 (.K6 .n6 (.M1 (.A0 (.M1 (.A0 (kS sE) (.A0 (kS iS) .B0))) .B0)) (.F0 iS)) (.A0 (.K6 .n6 (.M1 (.A0 (.M1 (.A0 (kS nK) (.A0 (kS iS) .B0))) .B0)) (.F0 iS)) (.A0 (.K6 .n6 (.M1 (.A0 (.M1 (.A0 (kS tK) (.A0 (kS bO) .B0))) (.A0 (kS aS) .B0))) (.F0 bO)) (.A0 (.K6 .n6 (.M1 (.A0 (.M1 (.A0 (kS qC) (.A0 (kS bO) .B0))) (.A0 (kS aS) .B0))) (.F0 bO)) (.A0 (.K6 .n6 (.M1 (.A0 (.M1 (.A0 (kS NV) (.A0 (kS bO) .B0))) (.A0 (kS aS) .B0))) (.F0 bO)) (.A0 (.M1 (.A0 (.M1 (.A0 (kS xh) (.A0 (kS m20) .B0))) (.A0 (kS JA) (.A0 (.M1 (.A0 (kS V3) .B0)) (.A0 (.M1 (.A0 (.u0 (.Q0 (.A0 (.Y0 O7) (.A0 (.Y0 V3) .B0)))) .B0)) (.A0 (.Q0 (.A0 (kS JA) (.A0 (.u0 (.Q0 (.A0 (.Y0 O7) (.A0 (.Y0 V3) .B0)))) .B0))) .B0)))))) .B0))))))))))))))))
def nF0:S:=(.J3 (.C8 (.S1 .eq (.w0 (.F0 pH) (kI 0)) (kS O7)) (.S1 .e8 (.w0 (.F0 pH) (kI 1)) (.M1 (.A0 (kS V3) (.A0 (kS cJ) .B0))))) (.U1 (.S1 .eq (.E4 .CU i20 (.F0 RC) (.A0 (.w0 (.F0 pH) (kI 1)) (.A0 (.F0 D3) .B0))) (.F0 D3))) .B0 (.J3 (.C8 (.S1 .eq (.w0 (.F0 pH) (kI 0)) (kS JA)) (.S1 .eq (.w0 (.F0 D3) (kI 0)) (kS JA))) (.U1 (.K2 (.u0 (.Z0 892)) (.A0 (.w0 (.F0 pH) (kI 1)) (.A0 (.w0 (.F0 D3) (kI 1)) (.A0 (.F0 RC) .B0))))) .B0 (.U1 (.S1 .eq (.F0 pH) (.F0 D3)))))
def oF0:S:=(.J3 (.S1 .eq (.w0 (.F0 V3) (kI 0)) (kS O7)) (.U1 (.E4 .l9 Ir (.F0 RC) (.A0 (.w0 (.F0 V3) (kI 1)) (.A0 (.F0 V3) .B0)))) .B0 (.J3 (.S1 .eq (.w0 (.F0 V3) (kI 0)) (kS JA)) (.U1 (.Q0 (.A0 (kS JA) (.A0 (.K2 (.u0 (.Z0 897)) (.A0 (.w0 (.F0 V3) (kI 1)) (.A0 (.F0 RC) .B0))) .B0)))) .B0 (.J3 (.S1 .eq (.w0 (.F0 V3) (kI 0)) (kS PE)) (.U1 (.Q0 (.A0 (kS PE) (.A0 (.mk .Q0 (.S4 (.H7 (.K2 (.u0 (.Z0 897)) (.A0 (.F0 SD) (.A0 (.F0 RC) .B0))) (.F0 SD) .B0 (.S4 (.w0 (.F0 V3) (kI 1)))))) .B0)))) .B0 (.U1 (.J7 (.S1 .eq (.w0 (.F0 V3) (kI 0)) (kS U9)) (.Q0 (.A0 (kS U9) (.A0 (.w0 (.F0 V3) (kI 1)) (.A0 (.Q0 .B0) (.A0 (.mk .Q0 (.S4 (.H7 (.K2 (.u0 (.Z0 897)) (.A0 (.F0 SD) (.A0 (.F0 RC) .B0))) (.F0 SD) .B0 (.S4 (.w0 (.F0 V3) (kI 3)))))) .B0))))) (.F0 V3))))))
def pF0:S:=(.V1 (.F0 OV) (.J7 (.S1 .gt (.F0 XO) (kI 0)) (.K2 (.u0 (.Z0 846)) (.A0 (.F0 xB) (.A0 (kI 6) .B0))) (.K2 (.u0 (.Z0 846)) (.A0 (.F0 xB) (.A0 (kI 3) .B0)))) (.J3 (.S1 .lt (.F0 OV) (kI 3)) (.U1 (.w0 (.M1 (.A0 (.u0 (.Q0 (.A0 (.Y0 iB) (.A0 (.Y0 qC) .B0)))) (.A0 (.Q0 (.A0 (kS bJ) .B0)) (.A0 (.Q0 (.A0 (kS O7) (.A0 (kS NV) .B0))) .B0)))) (.F0 OV))) .B0 (.U1 (.J7 (.S1 .lt (.F0 OV) (kI 5)) (.Q0 (.A0 (kS JA) (.A0 (.K2 (.u0 (.Z0 904)) (.A0 (.F0 xB) (.A0 (.K6 .w0 (.F0 XO) (kI 1)) .B0))) .B0))) (.Q0 (.A0 (kS U9) (.A0 (kS sE) (.A0 (.Q0 .B0) (.A0 (.Q0 (.A0 (.K2 (.u0 (.Z0 904)) (.A0 (.F0 xB) (.A0 (.K6 .w0 (.F0 XO) (kI 1)) .B0))) .B0)) .B0)))))))))
def qF0:S:=(.J3 (.S1 .eq (.w0 (.F0 V3) (kI 0)) (kS JA)) (.U1 (.Q0 (.A0 (kS n5) (.A0 (kI 0) (.A0 (.Q0 (.A0 (.Q0 (.A0 (kS xh) (.A0 (.Q0 .B0) (.A0 (.Q0 (.A0 (.K2 (.u0 (.Z0 911)) (.A0 (.w0 (.F0 V3) (kI 1)) .B0)) .B0)) .B0)))) .B0)) .B0))))) .B0 (.J3 (.S1 .eq (.w0 (.F0 V3) (kI 0)) (kS U9)) (.U1 (.Q0 (.A0 (kS n5) (.A0 (kI 0) (.A0 (.Q0 (.A0 (.Q0 (.A0 (kS sE) (.A0 (.Q0 .B0) (.A0 (.Q0 (.A0 (.K2 (.u0 (.Z0 911)) (.A0 (.w0 (.w0 (.F0 V3) (kI 3)) (kI 0)) .B0)) .B0)) .B0)))) .B0)) .B0))))) .B0 (.U1 (.Q0 (.A0 (kS n5) (.A0 (kI 0) (.A0 (.Q0 (.A0 (.Q0 (.A0 (.w0 (.F0 V3) (.u0 (.j0 (.KB 0)))) (.A0 (.Q0 .B0) (.A0 (.Q0 .B0) .B0)))) .B0)) .B0)))))))
def rF0:S:=(.U1 (.or (.S1 .e8 (.F0 V3) (.M1 (.A0 (.u0 (.Q0 (.A0 (.Y0 iB) (.A0 (.Y0 qC) .B0)))) (.A0 (.Q0 (.A0 (kS O7) (.A0 (kS NV) .B0))) .B0)))) (.C8 (.S1 .eq (.w0 (.F0 V3) (kI 0)) (kS JA)) (.K2 (.u0 (.Z0 918)) (.A0 (.w0 (.F0 V3) (kI 1)) .B0)))))
def sF0:S:=(.V1 (.Q0 (.A0 (.F0 QC) (.A0 (.F0 c6) (.A0 (.F0 P7) (.A0 (.F0 lD) (.A0 (.F0 Wb) .B0)))))) (.F0 I9) (.J3 (.S1 .ne (.b1 .Y5 (.F0 SA)) (.b1 .Y5 (.F0 lD))) (.U1 (kS rK)) .B0 (.OE (.Q0 (.A0 (.F0 pH) (.A0 (.F0 D3) .B0))) (.iK (.F0 lD) (.F0 SA)) (.J3 (.eH (.K2 (.u0 (.Z0 892)) (.A0 (.F0 pH) (.A0 (.F0 D3) (.A0 (.F0 RC) .B0))))) (.U1 (kS rK)) .B0 .B0) (.V1 (.F0 gb) (.mk .Q0 (.S4 (.H7 (.w0 (.F0 RC) (.F0 H6)) (.F0 H6) .B0 (.S4 (.F0 P7))))) (.V1 (.F0 kr) (.J7 (.or (.S1 .eq (.F0 c6) (kS aS)) (.S1 .eq (.F0 QC) (.M1 (.A0 (kS OQ) .B0)))) (.K2 (.u0 (.Z0 918)) (.A0 (.w0 (.F0 RC) (kS V3)) .B0)) (.u0 (.N3 I0))) (.J3 (.S1 .eq (.F0 c6) (kS aS)) (.U1 (.M1 (.A0 (.Q0 (.A0 (kS aS) (.A0 (kS tK) (.A0 (kS bO) (.A0 (.w0 (.F0 RC) (kS V3)) (.A0 (.Q0 .B0) .B0)))))) (.A0 (.K2 (.u0 (.Z0 897)) (.A0 (.F0 Wb) (.A0 (.F0 RC) .B0))) (.A0 (.F0 kr) .B0))))) .B0 (.U1 (.M1 (.A0 (.J7 (.b1 .ig (.F0 c6)) (.K6 .n6 (.F0 c6) (.Q0 (.A0 (.F0 gb) .B0))) (.F0 c6)) (.A0 (.K2 (.u0 (.Z0 897)) (.A0 (.F0 Wb) (.A0 (.F0 RC) .B0))) (.A0 (.F0 kr) .B0)))))))))))
def tF0:S:=(.OO (.V1 (.F0 c6) (.K2 (.u0 (.Z0 378)) (.A0 (.F0 Q4) (.A0 (.F0 qI) (.A0 (.u0 .H0) .B0)))) .B0) (.gU 64 (.Y0 rK) (.gU 52 (.Y0 H6) .B0)) (.V1 (.F0 V3) (.E4 .J5 bF (.F0 Q4) (.A0 (.w0 (.F0 c6) (kI 1)) .B0)) (.J3 (.S1 .ne (.w0 (.F0 c6) (kI 2)) (kI 5)) (.U1 (kS qh)) .B0 (.J3 (.S1 .eq (.w0 (.F0 c6) (kI 0)) (kS OY)) (.V1 (.F0 SA) (.mk .Q0 (.S4 (.H7 (.E4 .J5 bF (.F0 Q4) (.A0 (.F0 j8) .B0)) (.F0 j8) .B0 (.S4 (.w0 (.w0 (.F0 c6) (kI 3)) (.u0 (.j0 (.KB 0)))))))) (.V1 (.F0 jb) (.J7 (.S1 .eq (.w0 (.w0 (.F0 c6) (kI 3)) (kI 0)) (kS ZS)) (.K6 .n6 (.dE (.w0 (.F0 c6) (kI 3)) (.u0 .H0) (kI 2)) (.Q0 (.A0 (.F0 SA) .B0))) (.K6 .n6 (.dE (.w0 (.F0 c6) (kI 3)) (.u0 .H0) (kI 3)) (.Q0 (.A0 (.E4 .J5 bF (.F0 Q4) (.A0 (.w0 (.w0 (.F0 c6) (kI 3)) (kI 3)) .B0)) (.A0 (.F0 SA) .B0))))) (.V1 (.F0 qH) (.w0 (.F0 c6) (kI 4)) .B0))) (.J3 (.S1 .eq (.w0 (.F0 c6) (kI 0)) (kS U9)) (.V1 (.Q0 (.A0 (.F0 jb) (.A0 (.F0 qH) .B0))) (.Q0 (.A0 (.w0 (.F0 c6) (kI 3)) (.A0 (.mk .Q0 (.S4 (.H7 (.F0 j8) (.Q0 (.A0 (.F0 US) (.A0 (.F0 j8) .B0))) .B0 (.S4 (.w0 (.F0 c6) (kI 4)))))) .B0))) (.J3 (.S1 .ne (.H7 (.F0 US) (.Q0 (.A0 (.F0 US) (.A0 (.F0 j8) .B0))) .B0 (.S4 (.w0 (.F0 c6) (kI 4)))) (.mk .M1 (.Ma (.b1 .Y5 (.F0 qH))))) (.U1 (kS JE0)) .B0 .B0)) (.V1 (.Q0 (.A0 (.F0 jb) (.A0 (.F0 qH) .B0))) (.Q0 (.A0 (.w0 (.F0 c6) (kI 0)) (.A0 (.Q0 (.A0 (.w0 (.F0 c6) (kI 3)) .B0)) .B0))) .B0) .B0) (.J3 (.S1 .ne (.F0 qH) (.F0 SE)) (.U1 (kS qH)) .B0 (.OO (.A6 (.K2 (.u0 (.Z0 266)) (.A0 (.F0 Q4) .B0)) .B0) (.jg 76 (.A0 (.F0 jb) (.A0 (.F0 V3) (.A0 (.u0 (.N3 R0)) .B0))) .B0) (.U1 (.M1 (.A0 (.F0 jb) (.A0 (.F0 V3) (.A0 (.u0 (.N3 I0)) .B0)))))))))))
def uF0:S:=(.V1 (.Q0 (.A0 (.F0 QC) (.A0 (.F0 c6) (.A0 (.F0 P7) (.A0 (.F0 lD) (.A0 (.F0 Wb) .B0)))))) (.F0 I9) (.V1 (.Q0 (.A0 (.F0 RC) (.A0 (.F0 Q4) (.A0 (.F0 D3) .B0)))) (.Q0 (.A0 (.H2 (.A0 (kS V3) (.A0 (.K2 (.u0 (.Z0 904)) (.A0 (.F0 xB) (.A0 (kI 2) .B0))) (.A0 (kS cJ) (.A0 (.K2 (.u0 (.Z0 904)) (.A0 (.F0 xB) (.A0 (kI 1) .B0))) .B0))))) (.A0 (.K2 (.u0 (.Z0 878)) .B0) (.A0 (.H2 .B0) .B0)))) (.J3 (.S1 .e8 (.w0 (.F0 QC) (kI 0)) (.M1 (.A0 (kS qC) (.A0 (kS NV) (.A0 (kS nK) .B0))))) (.V1 (.w0 (.F0 D3) (kS V3)) (.w0 (.H2 (.A0 (kS qC) (.A0 (.u0 (.Q0 (.A0 (.Y0 iB) (.A0 (.Y0 qC) .B0)))) (.A0 (kS NV) (.A0 (.Q0 (.A0 (kS O7) (.A0 (kS NV) .B0))) (.A0 (kS nK) (.A0 (.u0 (.Q0 (.A0 (.Y0 iB) (.A0 (.Y0 qC) .B0)))) .B0))))))) (.w0 (.F0 QC) (kI 0))) .B0) .B0 (.A6 (.E4 .GF Pr (.F0 RC) (.A0 (.F0 D3) .B0)) (.V1 (.F0 SA) (.H7 (.K2 (.u0 (.Z0 897)) (.A0 (.F0 pH) (.A0 (.F0 RC) .B0))) (.F0 pH) .B0 (.S4 (.F0 lD))) (.V1 (.F0 OV) (.K2 (.u0 (.Z0 846)) (.A0 (.F0 xB) (.A0 (kI 6) .B0))) (.J3 (.C8 (.S1 .eq (.F0 OV) (kI 0)) (.S1 .ne (.F0 SA) (.M1 .B0))) (.V1 (.w0 (.F0 SA) (.K2 (.u0 (.Z0 846)) (.A0 (.F0 xB) (.A0 (.b1 .Y5 (.F0 SA)) .B0)))) (.K2 (.u0 (.Z0 904)) (.A0 (.F0 xB) (.A0 (kI 2) .B0))) .B0) (.J3 (.S1 .eq (.F0 OV) (kI 1)) (.V1 (.F0 SA) (.J7 (.S1 .eq (.K2 (.u0 (.Z0 846)) (.A0 (.F0 xB) (.A0 (kI 2) .B0))) (kI 0)) (.K6 .n6 (.F0 SA) (.M1 (.A0 (.u0 (.Q0 (.A0 (.Y0 iB) (.A0 (.Y0 qC) .B0)))) .B0))) (.dE (.F0 SA) (kI 1) (.u0 .H0))) .B0) .B0 .B0) (.V1 (.F0 Fi) (.H7 (.M1 (.A0 (.F0 H6) (.A0 (.Q0 .B0) (.A0 (.Q0 .B0) .B0)))) (.F0 H6) .B0 (.S4 (.F0 QC))) (.J3 (.C8 (.S1 .eq (.F0 D3) (.H2 .B0)) (.C8 (.S1 .eq (.K2 (.u0 (.Z0 846)) (.A0 (.F0 xB) (.A0 (kI 3) .B0))) (kI 0)) (.C8 (.S1 .ne (.F0 P7) (.M1 .B0)) (.S1 .pI (.F0 c6) (.M1 (.A0 (kS aS) (.A0 (kS JA) .B0))))))) (.J3 (.S1 .eq (.F0 QC) (.M1 (.A0 (kS sE) (.A0 (kS iS) .B0)))) (.V1 (.w0 (.F0 D3) (kS V3)) (.w0 (.F0 RC) (kS V3)) (.V1 (.w0 (.w0 (.F0 Fi) (kI 0)) (kI 2)) (.Q0 (.A0 (.K2 (.u0 (.Z0 911)) (.A0 (.w0 (.F0 D3) (kS V3)) .B0)) .B0)) .B0)) (.V1 (.F0 D3) (.mk .H2 (.S4 (.H7 (.Q0 (.A0 (.F0 H6) (.A0 (.w0 (.F0 RC) (.F0 H6)) .B0))) (.F0 H6) .B0 (.S4 (.F0 P7))))) (.V1 (.w0 (.w0 (.F0 Fi) (.u0 (.j0 (.KB 0)))) (kI 2)) (.mk .Q0 (.S4 (.H7 (.K2 (.u0 (.Z0 911)) (.A0 (.w0 (.F0 RC) (.F0 H6)) .B0)) (.F0 H6) .B0 (.S4 (.F0 P7))))) .B0)) .B0) .B0 (.V1 (.F0 SE) (.mk .Q0 (.S4 (.H7 (.Q0 (.A0 (kS Ai) (.A0 (.F0 V3) (.A0 (.K6 .n6 (kI 7) (.F0 US)) (.A0 (kI 0) .B0))))) (.Q0 (.A0 (.F0 US) (.A0 (.F0 V3) .B0))) .B0 (.qX (.F0 SA))))) (.V1 (.F0 n5) (.Q0 (.A0 (kS n5) (.A0 (kI 5) (.A0 (.mk .Q0 (.S4 (.H7 (.mk .Q0 (.S4 (.F0 J30))) (.F0 J30) .B0 (.S4 (.F0 Fi))))) .B0)))) (.V1 (.F0 qI) (.Q0 (.A0 (kS OY) (.A0 (kI 5) (.A0 (.F0 n5) (.A0 (.mk .Q0 (.S4 (.H7 (.Q0 (.A0 (kS D3) (.A0 (kI 0) (.A0 (.F0 NY) .B0)))) (.F0 NY) .B0 (.S4 (.F0 SE))))) .B0))))) (.V1 (.F0 Gi) (.K2 (.u0 (.Z0 923)) (.A0 (.F0 I9) (.A0 (.mk .H2 (.S4 (.F0 D3))) (.A0 (.F0 SA) .B0)))) (.U1 (.S1 .eq (.K2 (.u0 (.Z0 928)) (.A0 (.F0 Q4) (.A0 (.F0 qI) (.A0 (.F0 SE) .B0)))) (.F0 Gi))))))))))))))))
def vF0:S:=(.V1 (.F0 iJ) (.M1 (.A0 (.Q0 (.A0 (.M1 (.A0 (kS aO) (.A0 (kS G30) .B0))) (.A0 (kS rK) .B0))) (.A0 (.Q0 (.A0 (.M1 (.A0 (kS US) .B0)) (.A0 (kS H6) .B0))) (.A0 (.Q0 (.A0 (.M1 (.A0 (kS sE) (.A0 (kS K30) .B0))) (.A0 (kS rK) .B0))) (.A0 (.Q0 (.A0 (.M1 (.A0 (kS tK) (.A0 (kS K30) .B0))) (.A0 (kS H6) .B0))) .B0))))) (.A6 (.E4 .SI NQ (.F0 iJ) (.A0 (.Q0 (.A0 (.M1 (.A0 (kS bJ) (.A0 (kS bO) .B0))) (.A0 (kS rK) .B0))) .B0)) (.OE (.Q0 (.A0 (.F0 QC) (.A0 (.F0 Gi) .B0))) (.S4 (.F0 iJ)) (.V1 (.F0 qI) (.Q0 (.A0 (kS OY) (.A0 (kI 5) (.A0 (.Q0 (.A0 (kS n5) (.A0 (kI 5) (.A0 (.mk .Q0 (.S4 (.H7 (.Q0 (.A0 (.F0 H6) (.A0 (.Q0 .B0) (.A0 (.Q0 .B0) .B0)))) (.F0 H6) .B0 (.S4 (.F0 QC))))) .B0)))) (.A0 (.Q0 .B0) .B0))))) (.J3 (.S1 .ne (.K2 (.u0 (.Z0 928)) (.A0 (.K2 (.u0 (.Z0 878)) .B0) (.A0 (.F0 qI) (.A0 (.Q0 .B0) .B0)))) (.F0 Gi)) (.U1 (.u0 (.N3 R0))) .B0 .B0)) (.U1 (.S1 .eq (.K2 (.u0 (.Z0 928)) (.A0 (.K2 (.u0 (.Z0 878)) .B0) (.A0 (.Q0 (.A0 (kS OY) (.A0 (kI 5) (.A0 (.Q0 (.A0 (kS iB) (.A0 (kI 5) (.A0 (kI 1) (.A0 (.u0 .H0) .B0))))) (.A0 (.Q0 .B0) .B0))))) (.A0 (.Q0 .B0) .B0)))) (kS rK))))))
def e36:W3:=(.fn (.N1 Q2 (.N1 kh (.PN F6 (.j0 (.N4 0)) .B0))) ur)
def e39:W3:=.no
def e52:W3:=(.O2 (.mk (.kv kG .H0 (.kv lG .H0 (.kv mG .H0 (.kv k2 .H0 (.kv kG .H0 (.kv lG .H0 (.kv dJ (.Z0 36) (.kv mG .H0 (.kv fJ .H0 (.kv k2 .H0 .B0)))))))))) I0 36))
def e64:W3:=(.O2 (.mk (.kv kG .H0 (.kv lG .H0 (.kv mG .H0 (.kv k2 .H0 (.kv kG .H0 (.kv lG .H0 (.kv dJ (.Z0 36) (.kv mG .H0 (.kv fJ .H0 (.kv k2 .H0 .B0)))))))))) I0 36))
def e76:W3:=(.O2 (.mk (.kv kG .H0 (.kv lG .H0 (.kv mG .H0 (.kv k2 .H0 (.kv kG .H0 (.kv lG .H0 (.kv dJ (.Z0 36) (.kv mG .H0 (.kv fJ .H0 (.kv k2 .H0 .B0)))))))))) I0 36))
def e85:W3:=(.fn (.N1 j8 (.N1 jB .B0)) f85)
def e92:W3:=(.fn (.N1 j8 (.N1 jB .B0)) f92)
def e99:W3:=(.fn (.N1 pH (.N1 nh (.N1 QC (.N1 cA .B0)))) f99)
def wF0:W3:=(.fn (.N1 HV (.N1 Hr (.N1 QC (.N1 cA .B0)))) KE0)
def xF0:W3:=(.fn (.N1 n5 .B0) LE0)
def yF0:W3:=(.fn (.N1 wB .B0) ME0)
def zF0:W3:=(.fn (.N1 wB (.N1 VS (.N1 V3 .B0))) NE0)
def AG0:W3:=(.fn (.N1 V3 .B0) OE0)
def BG0:W3:=(.fn (.N1 Q2 (.N1 Z6 (.N1 gJ .B0))) PE0)
def CG0:W3:=(.fn (.N1 Q2 (.N1 w9 (.N1 V3 .B0))) QE0)
def DG0:W3:=(.fn (.N1 Q2 (.N1 wB (.N1 cA .B0))) RE0)
def EG0:W3:=(.fn (.N1 Q2 (.N1 w9 (.N1 cM (.N1 V3 (.N1 XO .B0))))) SE0)
def FG0:W3:=(.fn (.N1 Q2 (.N1 w9 (.N1 cM (.N1 V3 (.N1 XO .B0))))) TE0)
def GG0:W3:=(.O2 (.mk (.kv kG .H0 (.kv lG .H0 (.kv dJ (.Z0 146) (.kv d20 (.Z0 153) (.kv c20 (.Z0 158) (.kv Lr (.Z0 165) (.kv Ob (.Z0 170) (.kv mG .H0 (.kv YO .H0 (.kv fJ .H0 (.kv k2 .H0 .B0))))))))))) R0 146))
def HG0:W3:=(.fn (.N1 D3 .B0) UE0)
def IG0:W3:=(.fn (.N1 D3 (.N1 qH .B0)) VE0)
def JG0:W3:=(.fn (.N1 D3 (.N1 RC .B0)) WE0)
def KG0:W3:=(.c7 3 (.N1 D3 (.N1 oh .B0)) XE0)
def LG0:W3:=(.fn (.N1 kJ .B0) YE0)
def MG0:W3:=(.fn (.N1 D3 .B0) ZE0)
def NG0:W3:=(.fn (.N1 kJ .B0) aE0)
def OG0:W3:=(.c7 5 (.N1 D3 .B0) bE0)
def PG0:W3:=(.fn (.N1 D3 (.N1 IV (.N1 Z6 .B0))) cE0)
def QG0:W3:=(.fn (.N1 D3 (.N1 IV (.N1 Z6 .B0))) dE0)
def RG0:W3:=(.fn (.N1 H9 .B0) eE0)
def SG0:W3:=(.fn (.N1 Q4 (.N1 P7 (.N1 D3 (.N1 F6 .B0)))) fE0)
def TG0:W3:=(.fn (.N1 Q4 (.N1 P7 (.N1 UD (.N1 F6 .B0)))) gE0)
def UG0:W3:=(.fn (.N1 Q4 .B0) hE0)
def VG0:W3:=(.fn (.N1 Q4 (.N1 kB (.N1 H9 .B0))) iE0)
def WG0:W3:=(.fn (.N1 Q2 (.N1 WS (.N1 lD (.N1 XS .B0)))) jE0)
def XG0:W3:=(.O2 (.mk (.kv kG .H0 (.kv lG .H0 (.kv dJ (.Z0 287) (.kv mG .H0 (.kv YO .H0 (.kv fJ .H0 (.kv k2 .H0 .B0))))))) R0 287))
def YG0:W3:=(.fn (.N1 Q4 (.N1 rE (.N1 UD (.N1 WS .B0)))) kE0)
def ZG0:W3:=(.fn (.N1 Q4 (.N1 n5 (.N1 D3 (.N1 F6 .B0)))) lE0)
def aG0:W3:=(.fn (.N1 Q4 (.N1 wB (.N1 n5 (.N1 V3 (.N1 D3 (.N1 F6 .B0)))))) mE0)
def bG0:W3:=(.fn (.N1 Q4 (.N1 w9 (.N1 cM (.N1 V3 (.N1 F6 .B0))))) nE0)
def cG0:W3:=(.fn (.N1 Q4 (.N1 w9 (.N1 H6 (.N1 V3 (.N1 D3 (.N1 F6 .B0)))))) oE0)
def dG0:W3:=(.fn (.N1 Q4 (.N1 V3 (.N1 H6 .B0))) pE0)
def eG0:W3:=(.fn (.N1 Q4 (.N1 V3 (.N1 H6 .B0))) qE0)
def fG0:W3:=(.fn (.N1 Q4 (.N1 V3 (.N1 H6 (.N1 D3 (.N1 F6 .B0))))) rE0)
def gG0:W3:=(.fn (.N1 Q4 (.N1 kB (.N1 H9 .B0))) sE0)
def hG0:W3:=(.fn (.N1 Q4 (.N1 kB (.N1 lD (.N1 SE .B0)))) tE0)
def iG0:W3:=(.fn (.N1 Q4 (.N1 n5 (.N1 jJ .B0))) uE0)
def jG0:W3:=(.fn (.N1 Q4 (.N1 kB (.N1 bS (.N1 SE .B0)))) vE0)
def kG0:W3:=(.fn (.N1 Q4 (.N1 kB (.N1 SE (.N1 pG .B0)))) wE0)
def lG0:W3:=(.fn (.N1 Q4 (.N1 qI (.N1 n20 .B0))) xE0)
def mG0:W3:=(.fn (.N1 Q2 .B0) yE0)
def nG0:W3:=(.fn (.N1 Q2 .B0) zE0)
def oG0:W3:=(.fn (.N1 Q2 (.N1 D3 .B0)) AF0)
def pG0:W3:=(.c7 2 (.N1 Q2 (.N1 D3 .B0)) BF0)
def qG0:W3:=(.c7 4 (.N1 Q2 (.N1 gM (.N1 D3 .B0))) CF0)
def rG0:W3:=(.fn (.N1 Q2 (.N1 gM (.N1 D3 .B0))) DF0)
def sG0:W3:=(.fn (.N1 Q2 (.N1 j8 (.N1 jB .B0))) EF0)
def tG0:W3:=(.c7 6 (.N1 Q2 (.N1 j8 (.N1 jB .B0))) FF0)
def uG0:W3:=(.O2 (.mk (.kv kG .H0 (.kv lG .H0 (.kv dJ (.Z0 392) (.kv rH (.Z0 399) (.kv YD0 (.Z0 406) (.kv Sb (.Z0 413) (.kv bF (.Z0 418) (.kv q20 (.Z0 425) (.kv Ur (.Z0 432) (.kv r20 (.Z0 439) (.kv MY (.Z0 446) (.kv ZD0 (.Z0 453) (.kv mG .H0 (.kv YO .H0 (.kv fJ .H0 (.kv k2 .H0 .B0)))))))))))))))) R0 392))
def vG0:W3:=(.fn (.N1 Q2 (.N1 cF (.N1 qE (.N1 dS (.N1 GG (.N1 rH .B0)))))) GF0)
def wG0:W3:=(.fn (.N1 Q2 (.N1 qG .B0)) HF0)
def xG0:W3:=(.fn (.N1 Q2 .B0) IF0)
def yG0:W3:=(.fn (.N1 Q2 (.N1 F6 (.N1 H9 .B0))) JF0)
def zG0:W3:=(.fn (.N1 Q2 (.N1 F6 (.N1 I9 .B0))) KF0)
def AH0:W3:=(.fn (.N1 Q2 (.N1 F6 (.N1 I9 (.N1 D3 .B0)))) LF0)
def BH0:W3:=(.fn (.N1 Q2 (.N1 F6 (.N1 QC (.N1 I9 .B0)))) MF0)
def CH0:W3:=(.O2 (.mk (.kv kG .H0 (.kv lG .H0 (.kv dJ (.Z0 475) (.kv RQ (.Z0 480) (.kv gM (.Z0 487) (.kv n5 (.Z0 492) (.kv s20 (.Z0 499) (.kv Vb (.Z0 506) (.kv bS (.Z0 511) (.kv mG .H0 (.kv YO .H0 (.kv fJ .H0 (.kv k2 .H0 .B0))))))))))))) R0 475))
def DH0:W3:=(.fn (.N1 cF (.N1 qE (.N1 dS (.N1 GG (.N1 qG (.PN rH .H0 .B0)))))) NF0)
def EH0:W3:=(.fn (.N1 Q2 (.N1 Z6 (.N1 qE (.N1 GG (.N1 gJ (.N1 JV .B0)))))) OF0)
def FH0:W3:=(.fn (.N1 Q2 (.N1 qI (.N1 pG .B0))) PF0)
def GH0:W3:=(.fn (.N1 Q2 .B0) QF0)
def HH0:W3:=(.fn (.N1 Q2 (.N1 D3 .B0)) RF0)
def IH0:W3:=(.fn (.N1 Q2 (.N1 j8 (.N1 jB (.N1 F6 .B0)))) SF0)
def JH0:W3:=(.c7 8 (.N1 Q2 (.N1 qG .B0)) TF0)
def KH0:W3:=(.fn (.N1 Q2 (.N1 n5 (.N1 D3 .B0))) UF0)
def LH0:W3:=(.fn (.N1 Q2 (.N1 PY (.N1 H9 .B0))) VF0)
def MH0:W3:=(.fn (.N1 Q2 (.N1 H9 (.N1 F6 .B0))) WF0)
def NH0:W3:=(.fn (.N1 Q2 (.N1 H9 (.N1 F6 .B0))) XF0)
def OH0:W3:=(.fn (.N1 Q2 (.N1 c6 (.N1 D3 .B0))) YF0)
def PH0:W3:=(.fn (.N1 Q2 (.N1 c6 (.N1 G9 (.N1 pG .B0)))) ZF0)
def QH0:W3:=(.O2 (.mk (.kv kG .H0 (.kv lG .H0 (.kv dJ (.Z0 540) (.kv Tr (.Z0 547) (.kv qD0 (.Z0 554) (.kv rH (.Z0 561) (.kv bF (.Z0 568) (.kv MY (.Z0 575) (.kv uh (.Z0 582) (.kv rD0 (.Z0 589) (.kv sD0 (.Z0 596) (.kv tD0 (.Z0 603) (.kv uD0 (.Z0 610) (.kv A30 (.Z0 617) (.kv Nr (.Z0 622) (.kv vD0 (.Z0 629) (.kv w20 (.Z0 636) (.kv o20 (.Z0 643) (.kv u20 (.Z0 648) (.kv wD0 (.Z0 655) (.kv xD0 (.Z0 662) (.kv yD0 (.Z0 669) (.kv zD0 (.Z0 676) (.kv l20 (.Z0 683) (.kv y20 (.Z0 690) (.kv mG .H0 (.kv YO .H0 (.kv fJ .H0 (.kv k2 .H0 .B0))))))))))))))))))))))))))))) R0 540))
def RH0:W3:=(.fn (.N1 H9 .B0) aF0)
def SH0:W3:=(.fn (.N1 c6 .B0) bF0)
def TH0:W3:=(.fn (.N1 c6 .B0) cF0)
def UH0:W3:=(.fn (.N1 Q2 (.N1 n5 (.N1 RE (.N1 P7 (.N1 ZO (.N1 KV (.PN qE (.Y0 1) (.PN Xr (.Q0 .B0) .B0)))))))) dF0)
def VH0:W3:=(.O2 (.mk (.kv kG .H0 (.kv lG .H0 (.kv dJ (.Z0 732) (.kv mG .H0 (.kv YO .H0 (.kv fJ .H0 (.kv k2 .H0 .B0))))))) R0 732))
def WH0:W3:=(.fn (.N1 Q2 (.N1 n5 (.N1 RE (.N1 P7 (.N1 sH (.N1 lD (.N1 XS (.N1 Yr (.N1 Zr .B0))))))))) eF0)
def XH0:W3:=(.O2 (.mk (.kv kG .H0 (.kv lG .H0 (.kv dJ (.Z0 753) (.kv mG .H0 (.kv YO .H0 (.kv fJ .H0 (.kv k2 .H0 .B0))))))) R0 753))
def YH0:W3:=(.fn (.N1 Q2 (.N1 n5 (.N1 P7 (.N1 fM (.N1 br .B0))))) fF0)
def ZH0:W3:=(.O2 (.mk (.kv kG .H0 (.kv lG .H0 (.kv dJ (.Z0 774) (.kv mG .H0 (.kv YO .H0 (.kv fJ .H0 (.kv k2 .H0 .B0))))))) R0 774))
def aH0:W3:=(.fn (.N1 Q2 (.N1 jJ (.N1 RE (.N1 P7 (.N1 w9 (.N1 VS (.N1 GG (.N1 fM (.PN F6 (.j0 (.N4 0)) .B0))))))))) gF0)
def bH0:W3:=(.O2 (.mk (.kv kG .H0 (.kv lG .H0 (.kv dJ (.Z0 796) (.kv mG .H0 (.kv YO .H0 (.kv fJ .H0 (.kv k2 .H0 .B0))))))) R0 796))
def cH0:W3:=(.fn (.N1 Q2 (.PN cF .H0 .B0)) hF0)
def dH0:W3:=(.O2 (.mk (.kv kG .H0 (.kv lG .H0 (.kv dJ (.Z0 818) (.kv EE0 (.Z0 825) (.kv mG .H0 (.kv YO .H0 (.kv fJ .H0 (.kv k2 .H0 .B0)))))))) R0 818))
def eH0:W3:=(.c7 0 (.N1 xB (.N1 MV .B0)) Hi)
def fH0:W3:=(.fn (.N1 xB (.N1 jr .B0)) iF0)
def gH0:W3:=(.fn (.N1 qE (.N1 QC (.N1 C30 (.PN F6 (.j0 (.N4 0)) .B0)))) jF0)
def hH0:W3:=(.fn .B0 kF0)
def iH0:W3:=(.fn .B0 lF0)
def jH0:W3:=(.fn .B0 mF0)
def kH0:W3:=(.fn (.N1 pH (.N1 D3 (.N1 RC .B0))) nF0)
def lH0:W3:=(.fn (.N1 V3 (.N1 RC .B0)) oF0)
def mH0:W3:=(.c7 1 (.N1 xB (.N1 XO .B0)) pF0)
def nH0:W3:=(.c7 7 (.N1 V3 .B0) qF0)
def oH0:W3:=(.fn (.N1 V3 .B0) rF0)
def pH0:W3:=(.fn (.N1 I9 (.N1 RC (.N1 SA .B0))) sF0)
def qH0:W3:=(.fn (.N1 Q4 (.N1 qI (.N1 SE .B0))) tF0)
def rH0:W3:=(.fn (.N1 xB (.N1 I9 .B0)) uF0)
def sH0:W3:=(.fn .B0 vF0)
def Ii:LT W3:=(.S3 425 qG0 (.S3 236 PG0 (.S3 146 BG0 (.S3 92 e92 (.S3 64 e64 (.S3 39 e39 (.S3 36 e36 .B0 .B0) (.S3 52 e52 .B0 .B0)) (.S3 85 e85 (.S3 76 e76 .B0 .B0) .B0)) (.S3 118 yF0 (.S3 106 wF0 (.S3 99 e99 .B0 .B0) (.S3 113 xF0 .B0 .B0)) (.S3 132 AG0 (.S3 125 zF0 .B0 .B0) .B0))) (.S3 193 IG0 (.S3 170 FG0 (.S3 158 DG0 (.S3 153 CG0 .B0 .B0) (.S3 165 EG0 .B0 .B0)) (.S3 186 HG0 (.S3 173 GG0 .B0 .B0) .B0)) (.S3 217 MG0 (.S3 203 KG0 (.S3 198 JG0 .B0 .B0) (.S3 210 LG0 .B0 .B0)) (.S3 229 OG0 (.S3 224 NG0 .B0 .B0) .B0)))) (.S3 326 dG0 (.S3 287 WG0 (.S3 261 TG0 (.S3 247 RG0 (.S3 241 QG0 .B0 .B0) (.S3 254 SG0 .B0 .B0)) (.S3 273 VG0 (.S3 266 UG0 .B0 .B0) .B0)) (.S3 309 aG0 (.S3 299 YG0 (.S3 290 XG0 .B0 .B0) (.S3 304 ZG0 .B0 .B0)) (.S3 319 cG0 (.S3 314 bG0 .B0 .B0) .B0))) (.S3 371 kG0 (.S3 352 hG0 (.S3 340 fG0 (.S3 333 eG0 .B0 .B0) (.S3 347 gG0 .B0 .B0)) (.S3 364 jG0 (.S3 359 iG0 .B0 .B0) .B0)) (.S3 399 nG0 (.S3 392 mG0 (.S3 378 lG0 .B0 .B0) .B0) (.S3 418 pG0 (.S3 413 oG0 .B0 .B0) .B0))))) (.S3 709 SH0 (.S3 540 EH0 (.S3 487 xG0 (.S3 456 uG0 (.S3 439 sG0 (.S3 432 rG0 .B0 .B0) (.S3 446 tG0 .B0 .B0)) (.S3 480 wG0 (.S3 475 vG0 .B0 .B0) .B0)) (.S3 511 BH0 (.S3 499 zG0 (.S3 492 yG0 .B0 .B0) (.S3 506 AH0 .B0 .B0)) (.S3 526 DH0 (.S3 514 CH0 .B0 .B0) .B0))) (.S3 636 LH0 (.S3 575 IH0 (.S3 561 GH0 (.S3 547 FH0 .B0 .B0) (.S3 568 HH0 .B0 .B0)) (.S3 622 KH0 (.S3 582 JH0 .B0 .B0) .B0)) (.S3 690 PH0 (.S3 648 NH0 (.S3 643 MH0 .B0 .B0) (.S3 683 OH0 .B0 .B0)) (.S3 702 RH0 (.S3 693 QH0 .B0 .B0) .B0)))) (.S3 864 gH0 (.S3 777 ZH0 (.S3 753 WH0 (.S3 732 UH0 (.S3 716 TH0 .B0 .B0) (.S3 735 VH0 .B0 .B0)) (.S3 774 YH0 (.S3 756 XH0 .B0 .B0) .B0)) (.S3 828 dH0 (.S3 799 bH0 (.S3 796 aH0 .B0 .B0) (.S3 818 cH0 .B0 .B0)) (.S3 853 fH0 (.S3 846 eH0 .B0 .B0) .B0))) (.S3 911 nH0 (.S3 892 kH0 (.S3 878 iH0 (.S3 871 hH0 .B0 .B0) (.S3 885 jH0 .B0 .B0)) (.S3 904 mH0 (.S3 897 lH0 .B0 .B0) .B0)) (.S3 928 qH0 (.S3 923 pH0 (.S3 918 oH0 .B0 .B0) .B0) (.S3 938 sH0 (.S3 933 rH0 .B0 .B0) .B0))))))
def j7(a:C0):W3:=Ii.l9 .no a
def tH0:Pm:=(.N1 Q4 (.N1 qI (.N1 pG .B0)))
def uH0:C:=(.w0 (.F0 qI) (kI 2))
def TB:jI:=⟨j7,λ _=>tH0,λ _=>uH0,c7 456 64⟩
def SQ:C0:=456
end
section
def J9:y5:=(Rn (hU 90)).y7
def QV:v0:=(eC (eN "_law_call_right" 881 19 34) [(eN "source" 881 35 41),(eC (eN "_law_one" 881 43 51) [(eN "source" 881 52 58),(eC (eN "_law_rows" 881 60 69) [] 881 60 71)] 881 43 72)] 881 19 73)
def SV:PV:=.kv (vc "source") (.J0 0) .B0
def xr:C:=cE gF cl 40 J9 QV
@[irreducible] def dF:I7 PV:=(jD EB TB 300).A6 xr SV jG
def tE(p:PV)(σ:K1):I1:=Wh p&&RS σ jG 1
def dn{α:Type}(o:I7 α):C0:=match o with
 |.YH n _=>n
 |_=>0
def dk{α:Type}(o:I7 α)(d:C0):I7 α:=match o with
 |.YH _ k=>k d
 |_=> .eJ 0
theorem r11:dn dF=11:=by kernel_rfl
end
section
@[irreducible] def yr:P0 U5:=(H.fB (hU 90)).w7
def fT:S:=(.V1 (.F0 SE) (.Q0 (.A0 (.Q0 (.A0 (.u0 (.Y0 Ai)) (.A0 (.Q0 (.A0 (.u0 (.Y0 bJ)) .B0)) (.A0 (.u0 (.j0 (.N4 7))) (.A0 (.u0 (.j0 (.N4 0))) .B0))))) (.A0 (.Q0 (.A0 (.u0 (.Y0 Ai)) (.A0 (.u0 (.Q0 (.A0 (.Y0 iB) (.A0 (.Y0 qC) .B0)))) (.A0 (.u0 (.j0 (.N4 8))) (.A0 (.u0 (.j0 (.N4 0))) .B0))))) .B0))) (.V1 (.F0 qI) (.Q0 (.A0 (.u0 (.Y0 OY)) (.A0 (.u0 (.j0 (.N4 5))) (.A0 (.Q0 (.A0 (.u0 (.Y0 n5)) (.A0 (.u0 (.j0 (.N4 5))) (.A0 (.Q0 (.A0 (.Q0 (.A0 (.u0 (.Y0 sE)) (.A0 (.Q0 .B0) (.A0 (.Q0 .B0) .B0)))) (.A0 (.Q0 (.A0 (.u0 (.Y0 iS)) (.A0 (.Q0 .B0) (.A0 (.Q0 .B0) .B0)))) .B0))) .B0)))) (.A0 (.mk .Q0 (.S4 (.H7 (.Q0 (.A0 (.u0 (.Y0 D3)) (.A0 (.u0 (.j0 (.N4 0))) (.A0 (.F0 NY) .B0)))) (.F0 NY) .B0 (.S4 (.F0 SE))))) .B0))))) (.J3 (.S1 .ne (.w0 (.K2 (.u0 (.Z0 928)) (.A0 (.K2 (.u0 (.Z0 878)) .B0) (.A0 (.F0 qI) (.A0 (.F0 SE) .B0)))) (.u0 (.j0 (.N4 0)))) (.Q0 (.A0 (.u0 (.Y0 ZS)) (.A0 (.u0 (.Y0 Ei)) (.A0 (.Q0 (.A0 (.Q0 (.A0 (.u0 (.Y0 bJ)) .B0)) (.A0 (.u0 (.Q0 (.A0 (.Y0 iB) (.A0 (.Y0 qC) .B0)))) .B0))) .B0))))) (.U1 (.u0 (.N3 R0))) .B0 (.U1 (.K2 (.u0 (.Z0 938)) .B0)))))
theorem cT_:cS gF cl 40 J9 yr=fT:=by kernel_rfl
def As(o:I7 Fl):I1:=@xz Fl (λ _=>I1) (λ f _=>match f with|.U1 v _=>Wh v|_=>R0) (λ _ _=>R0) (λ n _ ih=>pR n ih) (λ _=>R0) o
theorem vH0{o:I7 Fl}:As o=I0->WH (λ f _=>∃e,f=.U1 (.N3 I0) e) λ _ _=>I6:=by
 induction o with
 |x8 a s=>
  intro h;cases a with
  |U1 v e=>exact⟨e,G6 (Fl.U1 · e) (Z20 h)⟩
  |_=>contradiction
 |J8 i s=>intro h;cases h
 |YH n k ih=>exact λ h d hd=>ih d (KU h d hd)
 |eJ w=>intro h;cases h
theorem wH0:As ((jD EB TB 300).vD fT .B0 SS)=I0:=by kernel_rfl
end
section
theorem rx0:pA tE (dk dF 0)=I0:=by kernel_rfl
end
section
theorem rx1:pA tE (dk dF 1)=I0:=by kernel_rfl
end
section
theorem rx2:pA tE (dk dF 2)=I0:=by kernel_rfl
end
section
theorem rx3:pA tE (dk dF 3)=I0:=by kernel_rfl
end
section
theorem rx4:pA tE (dk dF 4)=I0:=by kernel_rfl
end
section
theorem rx5:pA tE (dk dF 5)=I0:=by kernel_rfl
end
section
theorem rx6:pA tE (dk dF 6)=I0:=by kernel_rfl
end
section
theorem rx7:pA tE (dk dF 7)=I0:=by kernel_rfl
end
section
theorem rx8:pA tE (dk dF 8)=I0:=by kernel_rfl
end
section
theorem rx9:pA tE (dk dF 9)=I0:=by kernel_rfl
end
section
theorem xH0:pA tE (dk dF 10)=I0:=by kernel_rfl
end
section
section
def yH0:C0:=1540841246959064896438706
def zH0:C0:=1383040475425210669
set_option genInjectivity true in
inductive Ty where
 |u8|uE|X
 |W8(t:Ty)
 |X8(t:Ty)
@[reducible] def Ty.JJ(x:Ty):C0:=@OG (λ _=>C0) x 0 1 2 (λ _=>3) (λ _=>4)
namespace Ty
def dI:Ty->C0
 |W8 t=>uR+1
 |X8 t=>uR+1
 |_=>0
def hd:Ty->C0
 |u8=>0|uE=>1|X=>2|W8 _=>3|X8 _=>4
def p:Ty->PV
 |u8=> .Q0 (IS 0)|uE=> .Q0 (IS 1)|X=> .Q0 (IS 2)
 |W8 t=> .Q0 (x00 TF)
 |X8 t=> .Q0 (Gp TF)
def hs:C0->C0
 |0=>sX|1=>sU|2=>tX|3=>tU|_=>uU
def pf(x:C0)(l:PV):PV:=.Q0 (.A0 (.Y0 yH0) (.A0 (.j0 0) (.A0 (.Q0 (.A0 (.Q0 (.A0 (.Y0 x) (.A0 (.Q0 .B0) (.A0 (.Q0 l) .B0)))) .B0)) .B0)))
def w:Ty->PV
 |u8=>pf ng .B0|uE=>pf sU .B0|X=>pf nX .B0
 |W8 t=>pf zH0 (.A0 pU .B0)
 |X8 t=>pf nS (.A0 pU .B0)
end Ty
structure Gh where
 σ:K1
 ρ:C0->H1
 τ:C0->Ty
 av:P0 H1:=[]
noncomputable abbrev E8(vs:P0 K0)(n:C0):C4:={O2:=.U0 "tuple",H2:=H0,L3:=.V5 JB n,IC:=#[]}
noncomputable abbrev lB(vs:P0 K0)(n:C0):C4:={O2:=.U0 "list",H2:=H0,L3:=.V5 JB n,IC:=#[]}
inductive L30(n:C0)(v:K0):Prop
 |mk(h0:n≠0)(s:C1)(t:O6)(e:v=.Y0 s t)(e2:vc s=n)
inductive AI0(n:C0)(v:K0):Prop
 |mk(s:C1)(t:O6)(e:v=.Y0 s t)(l:s.L7<=n)
inductive BI0(P:K0->Prop)(Q:P0 K0->Prop)(l:P0 K0):Prop
 |mk(v:K0)(q:P0 K0)(e:l=v::q)(p:P v)(r:Q q)
inductive CI0(av:P0 H1)(h:O1)(Q:P0 K0->Prop)(v:K0):Prop
 |mk(a:H1)(vs:P0 K0)(k:C0)(e:v=.J0 a)(z:a∉av)(g:B3 a=E0 (E8 vs k))(r:Q vs)
def pP(T W K:C0->O1->K0->Prop)(n:C0)(ρ:C0->H1)(av:P0 H1)(h:O1)(p:PV):(K0->Prop)×(P0 K0->Prop):=
 @P_ (λ _=>(K0->Prop)×(P0 K0->Prop))
  (λ v=>v=.H0,λ _=>I6)
  (λ b=>(λ v=>v=.N3 b,λ _=>I6))
  (λ i=>(λ v=>∃t,v=.j0 i t,λ _=>I6))
  (λ n=>(L30 n,λ _=>I6))
  (λ n=>(AI0 n,λ _=>I6))
  (λ _=>I6,λ l=>l=[])
  (λ _ _ a r=>(λ _=>I6,BI0 a.1 r.2))
  (λ _ _ _ _ _=>(λ _=>I6,λ _=>I6))
  (λ _ l=>(CI0 av h l.2,λ _=>I6))
  (λ i=>(λ v=>i<n/\v=.J0 (ρ i),λ _=>I6))
  (λ a=>(λ v=>v=.J0 a,λ _=>I6))
  (λ i=>(λ v=>T i h v,λ _=>I6))
  (λ i=>(λ v=>W i h v,λ _=>I6))
  (λ i=>(λ v=>K i h v,λ _=>I6)) p
def QY:C0->O1->K0->Prop:=λ _ _ _=>I6
def mJ(av:P0 H1)(p:PV)(h:O1)(v:K0):Prop:=(pP QY QY QY 0 (λ _=>0) av h p).1 v
def M30(av:P0 H1)(p:PV)(h:O1)(v:P0 K0):Prop:=(pP QY QY QY 0 (λ _=>0) av h p).2 v
def Gh.T(G:Gh)(i:C0)(h:O1)(v:K0):Prop:=i<PB/\mJ E5 (I5 i).p h v
def Gh.W(G:Gh)(i:C0)(h:O1)(v:K0):Prop:=i<PB/\mJ E5 (I5 i).w h v
def Gh.K(G:Gh)(i:C0)(h:O1)(v:K0):Prop:=i<PB/\mJ E5 (.Y0 (FD (I5 i).hd)) h v
def F3(G:Gh)(h:O1)(p:PV)(v:K0):Prop:=(pP G.T G.W G.K I3 Y2 E5 h p).1 v
def A4(G:Gh)(h:O1)(p:PV)(l:P0 K0):Prop:=(pP G.T G.W G.K I3 Y2 E5 h p).2 l
section
variable{G:Gh}{h:Heap}{v:Value}{l:List Value}
theorem DI0:F3 G h .H0 v↔v=.H0:=qF
theorem EI0{b}:F3 G h (.N3 b) v↔v=.N3 b:=qF
theorem FI0{i}:F3 G h (.j0 i) v↔∃t,v=.j0 i t:=qF
end
def zB(av:P0 H1)(h h':O1):Prop:=∀b vs k,b∉av->B3 b=E0 (E8 vs k)->C3 b=E0 (E8 vs k)
theorem RY{T W K T' W' K':C0->O1->K0->Prop}{n n':C0}{ρ ρ':C0->H1}{av SY:P0 H1}{h h':O1}(hn:n<=n')(tH:∀i,i<n->ρ' i=ρ i)
  (hk:∀b vs k,b∉av->B3 b=E0 (E8 vs k)->b∉SY/\C3 b=E0 (E8 vs k))
  (hT:∀i v,T i h v->T' i h' v)(hW:∀i v,W i h v->W' i h' v)(hK:∀i v,K i h v->K' i h' v)(p:PV):
  (∀v,(pP T W K n ρ av h p).1 v->(pP T' W' K' n' ρ' SY h' p).1 v)/\(∀l,(pP T W K n ρ av h p).2 l->(pP T' W' K' n' ρ' SY h' p).2 l):=by
 induction p with
 |H0|N3|j0|Y0|AG|Z0=>exact⟨λ _ x=>x,λ _ x=>x⟩
 |B0=>exact⟨λ _ x=>x,λ _ x=>x⟩
 |A0 a r IG PA=>exact⟨λ _ x=>x,λ l ⟨v,q,e,x,y⟩=>⟨v,q,e,IG.1 v x,PA.2 q y⟩⟩
 |kv=>exact⟨λ _ x=>x,λ _ x=>x⟩
 |Q0 l ih=>exact⟨λ v ⟨a,vs,k,e,z,x,y⟩=>⟨a,vs,k,e,(hk _ _ _ z x).1,(hk _ _ _ z x).2,ih.2 vs y⟩,λ _ x=>x⟩
 |J0 i=>exact⟨λ v ⟨x,e⟩=>⟨U8 x hn,(tH i x).Y3▸e⟩,λ _ x=>x⟩
 |ty i=>exact⟨λ v x=>hT i v x,λ _ x=>x⟩
 |wr i=>exact⟨λ v x=>hW i v x,λ _ x=>x⟩
 |lC i=>exact⟨λ v x=>hK i v x,λ _ x=>x⟩
theorem uK{av SY:P0 H1}{h h':O1}(hk:∀b vs k,b∉av->B3 b=E0 (E8 vs k)->b∉SY/\C3 b=E0 (E8 vs k)){p:PV}{v:K0}(x:mJ av p h v):mJ SY p h' v:=
 (RY (A8 _) (λ _ _=>O) hk (λ _ _ x=>x) (λ _ _ x=>x) (λ _ _ x=>x) p).1 v x
structure vy(G G':Gh):Prop where
 n:I3<=tF.n
 ρ:∀i,i<I3->xe i=Y2 i
 av:G'.av=E5
 m:PB<=tF.m
 τ:∀i,i<PB->G'.τ i=I5 i
theorem vy.L5(G:Gh):wN G:=⟨A8 _,λ _ _=>O,O,A8 _,λ _ _=>O⟩
theorem vy.V2{qf TQ qb:Gh}(x:qf.Le TQ)(y:TQ.Le qb):qf.Le qb:=⟨W6 x.1 y.1,λ i hi=>(y.2 i (U8 hi x.1)).V2 (x.2 i hi),y.3.V2 x.3,W6 x.4 y.4,λ i hi=>(y.5 i (U8 hi x.4)).V2 (x.5 i hi)⟩
section
variable{G G':Gh}{h h':Heap}{p:PV}{v:Value}{l:List Value}
theorem jS(le:wN G')(hk:zB E5 h h'):∀b vs k,b∉E5->B3 b=E0 (E8 vs k)->b∉G'.av/\C3 b=E0 (E8 vs k):=
 λ b vs k hb e=>⟨IU▸hb,hk b vs k hb e⟩
theorem F3.D5(x:F3 G h p v)(le:wN G')(hk:zB E5 h h'):F3 G' h' p v:=
 (RY le.1 le.2 (jS le hk) (λ i v x=>⟨U8 x.1 sf,by rw[NX i x.1];exact uK (jS le hk) x.2⟩) (λ i v x=>⟨U8 x.1 sf,by rw[NX i x.1];exact uK (jS le hk) x.2⟩) (λ i v x=>⟨U8 x.1 sf,by rw[NX i x.1];exact uK (jS le hk) x.2⟩) p).1 v x
theorem zA0(x:A4 G h p l)(le:wN G')(hk:zB E5 h h'):A4 G' h' p l:=
 (RY le.1 le.2 (jS le hk) (λ i v x=>⟨U8 x.1 sf,by rw[NX i x.1];exact uK (jS le hk) x.2⟩) (λ i v x=>⟨U8 x.1 sf,by rw[NX i x.1];exact uK (jS le hk) x.2⟩) (λ i v x=>⟨U8 x.1 sf,by rw[NX i x.1];exact uK (jS le hk) x.2⟩) p).2 l x
end
inductive KvR(k:C0)(P:K0->Prop)(Q:P0 (C1×K0)->Prop)(l:P0 (C1×K0)):Prop
 |mk(x:C1)(u:K0)(q:P0 (C1×K0))(e:l=(x,u)::q)(h0:k≠0)(hx:vc x=k)(p:P u)(r:Q q)
def S8(G:Gh)(h:O1)(p:PV):P0 (C1×K0)->Prop:=
 @P_ (λ _=>P0 (C1×K0)->Prop)
  (λ _=>I6) (λ _ _=>I6) (λ _ _=>I6) (λ _ _=>I6) (λ _ _=>I6)
  (λ l=>l=[])
  (λ _ _ _ _ _=>I6)
  (λ k v _ _ ih=>KvR k (F3 G h v) ih)
  (λ _ _ _=>I6) (λ _ _=>I6) (λ _ _=>I6) (λ _ _=>I6) (λ _ _=>I6) (λ _ _=>I6) p
theorem yz{G G':Gh}{h h':O1}(le:wN G')(hk:zB E5 h h'){p:PV}:∀{l:P0 (C1×K0)},S8 G h p l->S8 G' h' p l:=by
 induction p with
 |kv k v r ihv PA=>exact λ⟨x,u,q,e,h0,hx,hv,hr⟩=>⟨x,u,q,e,h0,hx,hv.D5 le hk,PA hr⟩
 |B0=>exact λ x=>x
 |_=>exact λ x=>bD
def lS(hf:O1)(cx:I1)(h:O1)(vs:L4 K0):Prop:=
 (4<vs.L9/\(cx=R0->vs[2]?=E0 .H0))/\(vs[1]?=E0 .H0\/∃T oT ts,vs[1]?=E0 (.J0 T)/\B3 T=E0 oT/\oT.O2=.U0 "traceback"/\oT.L3=.R5 ts/\3<An/\zO T=H0)
def SR(o:C4):Prop:=F4=.U0 "code"/\∃vs,F9=.R5 vs
def nJ(h:O1)(cd:K0)(q:C1):Prop:=∃c o vs t,cd=.J0 c/\B3 c=E0 o/\F4=.U0 "code"/\F9=.R5 vs/\vs[1]?=E0 (.Y0 q t)
theorem nJ.GR{h:O1}{cd:K0}{q:C1}(x:nJ h cd q):h.Gy cd q:=by obtain⟨c,o,vs,t,e,g,_,d,r⟩:=x;exact⟨c,o,vs,t,e,g,d,r⟩
theorem nJ.at{h h':O1}{cd:K0}{q:C1}(x:nJ h cd q)(k:∀b o,B3 b=E0 o->SR o->C3 b=E0 o):nJ h' cd q:=by obtain⟨c,o,vs,t,e,g,cc,d,r⟩:=x;exact⟨c,o,vs,t,e,k c o g ⟨cc,vs,d⟩,cc,d,r⟩
structure Bs where
 K3:YN
 w:M4
 hf:O1
 Z:P0 H1
 zin:∀b∈Z,∃o,zO b=E0 o
 N30:(zO mZ).sL=I0
 lA:C0->O1->H1->Prop
 JG:O1->Prop
 uf:∀h:O1,JG h->(∀b o,zO b=E0 o->b∉Z->F4≠.U0 "frame"->F4≠.U0 "traceback"->B3 b=E0 o)->hf.hO<=l8
 Cs:∀h,JG h->∀b∈Z,∀o,B3 b=E0 o->F4≠.U0 "frame"/\F4≠.U0 "traceback"
 GI0:∀h h',(∀b o,B3 b=E0 o->b∈Z\/SR o\/(∃x,zO b=E0 x)->C3 b=E0 o)->JG h->JG h'
 zfr:∀{h:O1},JG h->∀b o,zO b=E0 o->F4=.U0 "frame"\/F4=.U0 "traceback"->B3 b=E0 o
 HI0:∀k h h' a,(∀b o,B3 b=E0 o->b=a\/SR o->C3 b=E0 o)->lA k h a->lA k h' a
 Ji:K0->Prop
 zfn:∀{v:K0}{h:O1},Ji v->JG h->∃c P ps,v=.J0 c/\Qo c P ps/\h.Hy c P ps/\P∈Z/\∀C2 c',qZ C2 Y00=E0 c'->∃q,nJ h c' q
 O30:∀{v:K0}{h h':O1}{c P:H1}{ps:L4 K0}{C2:Q3}{c':H1}{q:C1},Ji v->v=.J0 c->JG h->Qo c P ps->ld P h h'->l8<=c'->h'.SR c P (ps++#[i5 a_,i5 C2.UJ,.J0 c'])->
  h'.Hy c P (ps++#[i5 a_,i5 C2.UJ,.J0 c'])->nJ h' (.J0 c') q->JG h'
 P30:∀k h a,lA k h a->∃o,B3 a=E0 o/\F4=.U0 "function"
variable(B:Bs)
inductive Q30(G:Gh)(h:O1)(a:H1)(l:PV):Prop
 |mk(vs:P0 K0)(k:C0)(g:B3 a=E0 (lB vs k))(r:A4 G h l vs)
inductive R30(G:Gh)(h:O1)(a:H1)(l:PV):Prop
 |mk(U2:P0 (C1×K0))(g:h.PR (CD bE kE) a U2)(r:S8 G h l U2)
inductive II0(G:Gh)(h:O1)(a:H1)(l:PV):Prop
 |mk(U2:P0 (C1×K0))(o:C4)(g:B3 a=E0 o)(c:F4=.U0 "dict")(n:TU a (rF U2))(nd:(bN (·.1)).GD)(r:S8 G h l U2)
inductive JI0(G:Gh)(h:O1)(a:H1)(c d:C0):Prop
 |mk(g:B3 a=E0 (wZ c (Y2 d)))(l:d<I3)(f:∃l,O3 d=.V6 l)
inductive KI0(G:Gh)(h:O1)(a:H1)(cx:I1)(c d:C0):Prop
 |mk(vs:L4 K0)(g:B3 a=E0 ⟨.J0 c,E0 (Y2 d),.R5 vs,#[]⟩)(l:d<I3)(f:∃l,O3 d=.V6 l)(t:lS RH cx h vs)
inductive SrcR(h:O1)(a:H1):Prop
 |mk(x:A2)(t:O6)(y:A2)(u:O6)(k:C0)(g:B3 a=E0 (lB [.j0 x t,.j0 y u] k))
def vE(G:Gh)(h:O1)(a:H1):AO->Prop
 |.K4=>lP
 |.M1 l=>Q30 G h a l
 |.H2 l=>R30 B G h a l
 |.V6 l=>II0 G h a l
 |.u7 c d=>JI0 G h a c d
 |.J8 cx c d=>KI0 B G h a cx c d
 |.lA k=>UU k h a
 |.bm f h_=>∃u,B3 a=E0 (MV0 (.J0 f) u)/\F3 G h h_ u
 |.R4=>SrcR h a
 |.ti _=>I6
def u9(G:Gh)(b:H1):Prop:=∃i,i<I3/\O3 i≠.K4/\Y2 i=b
def UQ(τ:C0->Ty)(m i:C0):TI->Prop
 |.OC k d=>k<32/\mC k (τ i).hd=I0/\(τ i).dI<=d
 |.al j=>j<m/\τ i=τ j
 |.eA k=>k<3/\(τ i).hd=k
 |.W8 j=>j<m/\τ i=.W8 (τ j)
 |.X8 j=>j<m/\τ i=.X8 (τ j)
structure iA(τ:C0->Ty)(σ:K1):Prop where
 dI:∀i,i<D6->(τ i).dI<=2
 info:∀i,i<D6->UQ τ D6 i (V8 i)
 ne:∀p∈jP,p.1<D6/\p.2<D6/\τ p.1≠τ p.2
structure Qg(G:Gh)(h:O1):Prop where
 KT:∀i j,i<I3->j<I3->O3 i≠.K4->O3 j≠.K4->Y2 i=Y2 j->i=j
 NF:∀i,i<I3->vE B G h (Y2 i) (O3 i)
 IO:∀i,I3<=i->O3 i=.K4
 eA:∀i,i<I3->O3 i≠.K4->PG (Y2 i)=H0
 av:∀a∈E5,PG a=H0/\∃o,B3 a=E0 o
def vK(o o':C4):Prop:=o'=o\/(F4=.U0 "frame"/\∃sl,o'={o with IC:=sl})\/(F4=.U0 "traceback"/\∃ts fH,F9=.R5 ts/\o'={o with L3:=.R5 fH}/\fH.L9=An)
theorem vK.L5(o:C4):vK o o:=.S2 O
theorem vK.V2{a b c:C4}(x:vK a b)(y:vK b c):vK a c:=by
 rcases x with O|⟨hc,sl,O⟩|⟨hc,ts,fH,hd,O,hz⟩
 ·exact y
 ·rcases y with O|⟨_,sl',O⟩|⟨aB,_⟩
  ·exact .L2 (.S2 ⟨hc,sl,O⟩)
  ·exact .L2 (.S2 ⟨hc,sl',O⟩)
  ·have aB:Z00=_:=aB;rw[hc]at aB;exact T3 aB (by trivial)
 ·rcases y with O|⟨aB,_⟩|⟨_,us,us',aA,O,JO⟩
  ·exact .L2 (.L2 ⟨hc,ts,fH,hd,O,hz⟩)
  ·have aB:Z00=_:=aB;rw[hc]at aB;exact T3 aB (by trivial)
  ·have aA:Data.R5 fH=.R5 us:=aA;cases aA;exact .L2 (.L2 ⟨hc,ts,us',hd,O,JO.V2 hz⟩)
theorem vK.eq{a b:C4}(x:vK a b)(h1:Z00≠.U0 "frame")(h2:Z00≠.U0 "traceback"):b=a:=by
 rcases x with e|⟨h,_⟩|⟨h,_⟩
 ·exact e
 ·exact T3 h h1
 ·exact T3 h h2
theorem vK.LI0{a b:C4}(x:vK a b)(h:∀vs,a.L3≠.R5 vs):b.L3=a.L3:=by
 rcases x with O|⟨_,_,O⟩|⟨_,ts,_,hd,_⟩
 ·rfl
 ·rfl
 ·exact T3 hd (h ts)
structure UE(h h':O1):Prop where
 tb:∀b o ts,B3 b=E0 o->F4=.U0 "traceback"->F9=.R5 ts->∃o' fH,C3 b=E0 o'/\RK=.U0 "traceback"/\X_=.R5 fH/\fH.L9=An
 fr:∀b o,B3 b=E0 o->F4=.U0 "frame"->(∀vs,F9≠.R5 vs)->∃o',C3 b=E0 o'/\RK=.U0 "frame"/\∀vs,X_≠.R5 vs
 YA:∀b o,B3 b=E0 o->SR o->C3 b=E0 o
theorem UE.L5(h:O1):UE h h:=⟨λ _ o ts e c d=>⟨o,ts,e,c,d,O⟩,λ _ o e c d=>⟨o,e,c,d⟩,λ _ _ e _=>e⟩
theorem UE.V2{j5 r7 c8:O1}(x:UE j5 r7)(y:UE r7 c8):UE j5 c8:=
 ⟨λ b o ts e c d=>by obtain⟨o',fH,e',c',d',z'⟩:=x.tb b o ts e c d;exact by obtain⟨yb,MI0,Rg,c'',d'',z''⟩:=y.tb b o' fH e' c' d';exact⟨yb,MI0,Rg,c'',d'',z''.V2 z'⟩,
  λ b o e c d=>by obtain⟨o',e',c',d'⟩:=x.fr b o e c d;exact y.fr b o' e' c' d',λ b o e c=>y.YA b o (m00 b o e c) c⟩
theorem UE.HW0{hf:O1}{cx:I1}{h h':O1}(x:UE h h'){vs:L4 K0}(t:lS hf cx h vs):lS hf cx h' vs:=by
 obtain⟨h1,h2|⟨T,oT,ts,e,g,c,d,z,bT⟩⟩:=t
 ·exact⟨h1,.S2 h2⟩
 ·obtain⟨o',fH,e',c',d',z'⟩:=x.tb T oT ts g c d;exact⟨h1,.L2 ⟨T,o',fH,e,e',c',d',z'▸z,bT⟩⟩
structure Z2(F:H1->Prop)(G:Gh)(s:D1)(G':Gh)(s':D1):Prop where
 st:∃h tk,s'={s with A3:=h,y3:=tk}
 le:wN G'
 s9:∀b,u9 G' b->u9 G b\/E3 b=H0
 AE:∀b o,E3 b=E0 o->∃o',OL b=E0 o'
 JC:∀b o,E3 b=E0 o->¬u9 G b->¬F b->b∉CG->∃o',OL b=E0 o'/\vK o o'
 Q0:zB E5 W0 T6
 k3:UE W0 T6
def N2:H1->Prop:=λ _=>I6
variable{B τ}
theorem Z2.L5(F:H1->Prop)(G:Gh)(s:D1):Z2 B F G s G s:=⟨⟨W0,X4,O⟩,.L5 G,λ _ x=> .S2 x,λ _ o e=>⟨o,e⟩,λ _ o e _ _ _=>⟨o,e,.L5 o⟩,λ _ _ _ _ e=>e,.L5 _⟩
theorem Z2.V2{F:H1->Prop}{qf TQ qb:Gh}{M6 q9 JD:D1}(x:Z2 B F qf M6 TQ q9)(y:Z2 B F TQ q9 qb JD):Z2 B F qf M6 qb JD:=by
 obtain⟨h2,t2,O⟩:=x.st;obtain⟨h3,t3,O⟩:=y.st;refine⟨⟨h3,t3,O⟩,x.le.V2 y.le,λ b hb=>?_,λ b o e=>?_,λ b o e n1 n2 n3=>?_,λ b vs k hb e=>y.Q0 b vs k (x.IU▸hb) (x.Q0 b vs k hb e),x.k3.V2 y.k3⟩
 ·rcases y.s9 b hb with h|h
  ·exact s_ b h
  ·cases e:M6.FV b with
   |H0=>exact .L2 O
   |E0 o=>obtain⟨o',e'⟩:=x.AE b o e;rw[h]at e';contradiction
 ·obtain⟨o',e'⟩:=x.AE b o e;exact y.AE b o' e'
 ·obtain⟨o',e',s1⟩:=x.JC b o e n1 n2 n3;obtain⟨yb,Rg,s2⟩:=y.JC b o' e' (λ q=>by
   rcases s_ b q with h|h
   ·exact n1 h
   ·rw[e]at h;contradiction) n2 n3
  exact⟨yb,Rg,s1.V2 s2⟩
theorem Z2.D5{F F':H1->Prop}{G G':Gh}{s s':D1}(x:Z2 B F G s G' s')(h:∀b,F b->F' b):Z2 B F' G s G' s':=
 ⟨x.st,x.le,s_,x.AE,λ b o e n1 n2 n3=>x.JC b o e n1 (λ q=>n2 (h b q)) n3,x.Q0,x.k3⟩
theorem Z2.SG{F F':H1->Prop}{G G':Gh}{s s':D1}(x:Z2 B F G s G' s')(h:∀b,F b->F' b\/E3 b=H0):Z2 B F' G s G' s':=
 ⟨x.st,x.le,s_,x.AE,λ b o e n1 n2 n3=>x.JC b o e n1 (λ q=>by
  rcases h b q with h|h
  ·exact n2 h
  ·rw[e]at h;contradiction) n3,x.Q0,x.k3⟩
theorem F3.J6{F:H1->Prop}{G G':Gh}{s s':D1}{p:PV}{v:K0}(x:F3 G W0 p v)(y:Z2 B F G s G' s'):F3 G' T6 p v:=n00 y.le y.Q0
theorem A4.J6{F:H1->Prop}{G G':Gh}{s s':D1}{p:PV}{v:P0 K0}(x:A4 G W0 p v)(y:Z2 B F G s G' s'):A4 G' T6 p v:=n00 y.le y.Q0
def mS(hf h:O1)(l:P0 o6):Prop:=∀e∈l,e.ST≠.pW/\∃L o,e.DD=E0 L/\B3 L=E0 o/\F4=.U0 "frame"/\(∀vs,F9≠.R5 vs)/\zO L=H0
theorem mS.JC{b h h':O1}{l:P0 o6}(x:mS b h l)(k:UE h h'):mS b h' l:=λ e he=>
 vN (x e he) λ h1 z=>e2n4 z λ L o hf z=>e0n4 z λ ho hc hd bL=>fU (k.fr L o ho hc hd) λ o' xR aB aA=>
 ⟨h1,L,o',hf,xR,aB,aA,bL⟩
def NI0:O1:={}
theorem mS.fun{b h:O1}:∀{l:P0 o6},mS b h l->h.FunFrames NI0 l:=by
 intro zq;induction zq with
 |B0=>
  intro _;exact zD
 |A0 e r ih=>
  intro x;obtain⟨h1,L,o,hf,ho,_,hd,_⟩:=x e (.I8 _);exact⟨h1,⟨L,o,hf,O,ho,hd⟩,ih λ e' he=>x e' (.w7 _ he)⟩
def VD(B:Bs)(h:O1):Prop:=∀b o,PG b=E0 o->b∉CG->F4≠.U0 "frame"->F4≠.U0 "traceback"->B3 b=E0 o
structure J1(B:Bs)(A:B6)(G:Gh)(s:D1):Prop where
 ty:iA I5 R1
 inv:Qg B G W0
 eA:VD B W0
 JG:B.JG W0
 fr:∃l,VN=E0 l/\mS RH W0 l
end
end
section
section
theorem wif_pos{M:UB}{A:B6}{α:Type}{c:Prop}[f90 c]{a b:X7 α}{Q:α->D1->Prop}{E:K0->D1->Prop}{s:D1}(h:c)(k:V0 M A a Q E s):V0 M A (if c then a else b) Q E s:=(w3 h).Y3▸k
theorem PI{M:UB}{A:B6}{α:Type}{c:Prop}[f90 c]{a b:X7 α}{Q:α->D1->Prop}{E:K0->D1->Prop}{s:D1}(h:¬c)(k:V0 M A b Q E s):V0 M A (if c then a else b) Q E s:=(u3 h).Y3▸k
theorem zb{a b:U6}(h:a≠b):TL a≠TL b:=λ q=>h (TL.KT q)
theorem Li{a:H1}{b:U6}:w6 a≠TL b:=by nofun
theorem OI0{h:O1}{a b:H1}{o o':C4}(e:B3 a=E0 o)(e':B3 b=E0 o')(c:F4≠RK):a≠b:=λ q=>c (G6 C4.O2 (H3 (Hd (q▸e'))))
theorem iM{h:O1}{a b:H1}{o o':C4}{x y:U6}(e:B3 a=E0 o)(e':B3 b=E0 o')(c:F4=.U0 x)(c':RK=.U0 y)(n:x≠y):a≠b:=OI0 e e' (c▸c'▸zb n)
theorem Mi{P:H1->Prop}{c z t:H1}(h:c=z\/c=t)(a:P z)(b:P t):P c:=V4 (λ q=>q▸a) λ q=>q▸b
theorem Ni{P:H1->Prop}{c z t i j:H1}(h:c=z\/c=t\/c=i\/c=j)(a:P z)(b:P t)(x:P i)(y:P j):P c:=V4 (λ q=>q▸a) λ h=>V4 (λ q=>q▸b) λ h=>Mi h x y
theorem pS(i:C0):i=0\/(∃a,i=2*a+1)\/∃a,i=2*a+2:=by
 induction i using ML with
 |i9=>exact .S2 O
 |c9 i=>
  rcases C0.mod_two_eq_zero_or_one i with h|h
  ·exact .L2 (.S2 ⟨i/2,by rw[<-iT0 i 2,h,ut IW];rfl⟩)
  ·exact .L2 (.L2 ⟨i/2,by rw[<-iT0 i 2,h,ut IW];rfl⟩)
theorem TV(a:C0):lL (2*a+1) 2=1/\NH (2*a+1) 2=a:=⟨jT0 _ _ _,ut IW _ _⟩
theorem VV(a:C0):lL (2*a+2) 2=0/\MH (NH (2*a+2) 2) 1=a:=⟨jT0 _ _ _,G6 (· -1) (ut IW a 2)⟩
section
variable{o v:AO}{l r:TT}{k a b:Nat}
theorem Oi:(A00 v l r).l9 (2*a+1)=Fg a:=by
 show@O8 (λ _=>AO) _ (Fg (NH (2*a+1) 2)) (Y1 (lL (2*a+1) 2) 1)=_;rw[(TV a).1,(TV a).2];rfl
theorem Qi:(A00 v l r).l9 (2*a+2)=Gg a:=by
 show@O8 (λ _=>AO) (Gg (MH (NH (2*a+2) 2) 1)) _ (Y1 (lL (2*a+2) 2) 1)=_;rw[(VV a).1,(VV a).2];rfl
theorem PI0:(A00 v l r).w8 o (2*a+1)=.S3 v (l.w8 o a) r:=by
 show@O8 (λ _=>TT) _ (.S3 v (l.w8 o (NH (2*a+1) 2)) r) (Y1 (lL (2*a+1) 2) 1)=_;rw[(TV a).1,(TV a).2];rfl
theorem QI0:(A00 v l r).w8 o (2*a+2)=.S3 v l (r.w8 o a):=by
 show@O8 (λ _=>TT) (.S3 v l (r.w8 o (MH (NH (2*a+2) 2) 1))) _ (Y1 (lL (2*a+2) 2) 1)=_;rw[(VV a).1,(VV a).2];rfl
theorem RI0:I_ o (k+1) (2*a+1)=.S3 .K4 (I_ o k a) .B0:=by
 show@O8 (λ _=>TT) _ (.S3 .K4 (I_ o k (NH (2*a+1) 2)) .B0) (Y1 (lL (2*a+1) 2) 1)=_;rw[(TV a).1,(TV a).2];rfl
theorem SI0:I_ o (k+1) (2*a+2)=.S3 .K4 .B0 (I_ o k a):=by
 show@O8 (λ _=>TT) (.S3 .K4 .B0 (I_ o k (MH (NH (2*a+2) 2) 1))) _ (Y1 (lL (2*a+2) 2) 1)=_;rw[(VV a).1,(VV a).2];rfl
theorem e11:(2*b+1=2*a+1)=(b=a):=propext ⟨λ h=>KS0 IW (dZ h),λ h=>h▸O⟩
theorem e22:(2*b+2=2*a+2)=(b=a):=propext ⟨λ h=>KS0 IW (dZ (dZ h)),λ h=>h▸O⟩
theorem Ri:¬2*b+1=2*a+2:=λ h=>by have:=G6 (· %2) h;rw[show(2*b+1)%2=1 from(TV b).1,show(2*a+2)%2=0 from(VV a).1]at J2;contradiction
end
def TY(o:AO)(i j:C0)(f x:AO):Prop:=f=if j=i then o else x
theorem TT.TI0(o:AO):∀(k i j:C0),i<k->TY o i j ((I_ o k i).l9 j) .K4:=by
 intro k;induction k with
 |i9=>intro i j hi;exact T3 hi (NG _)
 |c9 k ih=>
  intro i j hi;rcases pS i with O|⟨a,O⟩|⟨a,O⟩
  ·rcases pS j with O|⟨b,O⟩|⟨b,O⟩
   ·exact(w3 O).Y3
   ·exact T00 (u3 (HW _)).Y3
   ·exact U00 (u3 (HW _)).Y3
  ·have ha:a<k:=U8 (l80 (M80 a IW)) (Ts hi);unfold TY;rw[RI0];rcases pS j with O|⟨b,O⟩|⟨b,O⟩
   ·exact(u3 (HW _).Y3).Y3
   ·simp only[Oi,e11];exact ih a b ha
   ·exact U00 (u3 λ h=>Ri MJ).Y3
  ·have ha:a<k:=U8 (l80 (fs (M80 a IW))) (Ts hi);unfold TY;rw[SI0];rcases pS j with O|⟨b,O⟩|⟨b,O⟩
   ·exact(u3 (HW _).Y3).Y3
   ·exact T00 (u3 Ri).Y3
   ·simp only[Qi,e22];exact ih a b ha
theorem TT.UI0(o:AO):∀(t:TT)(i j:C0),TY o i j ((t.w8 o i).l9 j) (WX j):=by
 intro t;induction t with
 |B0=>intro i j;exact TT.TI0 o (i+1) i j (rD _)
 |S3 v l r ihl PA=>
  intro i j;rcases pS i with O|⟨a,O⟩|⟨a,O⟩
  ·rcases pS j with O|⟨b,O⟩|⟨b,O⟩
   ·exact(w3 O).Y3
   ·exact T00 (Oi.SZ (u3 (HW _)).Y3)
   ·exact U00 (Qi.SZ (u3 (HW _)).Y3)
  ·unfold TY;rw[PI0];rcases pS j with O|⟨b,O⟩|⟨b,O⟩
   ·exact(u3 (HW _).Y3).Y3
   ·simp only[Oi,e11];exact ihl a b
   ·exact U00 (Qi.SZ (u3 λ h=>Ri MJ).Y3)
  ·unfold TY;rw[QI0];rcases pS j with O|⟨b,O⟩|⟨b,O⟩
   ·exact(u3 (HW _).Y3).Y3
   ·exact T00 (Oi.SZ (u3 Ri).Y3)
   ·simp only[Qi,e22];exact PA a b
theorem IH(o:AO)(t:TT)(i j:C0):(t.w8 o i).l9 j=if j=i then o else WX j:=TT.UI0 o t i j
theorem wy(σ:K1)(i:C0)(o:AO)(j:C0):(VU i o).n8 j=if j=i then o else AA j:=IH o KX i j
theorem J_(σ:K1)(o:AO)(j:C0):(pi o).n8 j=if j=tJ then o else AA j:=IH o KX tJ j
@[simp] theorem K1.IW0(σ:K1)(i:C0)(o:AO):(VU i o).n=tJ:=O
@[simp] theorem K1.JW0(σ:K1)(o:AO):(pi o).n=tJ+1:=O
section
variable{α β:Type}
theorem Jf{P P':α->K1->Prop}{X X':C0->K1->Prop}(hP:∀a s,P a s->P' a s)(hX:∀i s,X i s->X' i s){o:I7 α}(h:WH P X):WH P' X':=by
 induction o with
 |x8 a s=>exact hP a s h
 |J8 i s=>exact hX i s h
 |YH n k ih=>exact λ d hd=>ih d (h d hd)
 |eJ=>exact V4
theorem I7.tR0{P:β->K1->Prop}{X:C0->K1->Prop}{f:α->K1->I7 β}{o:I7 α}:(o.R6 f).P1 P X↔WH (λ a s=>(f a s).P1 P X) X:=by
 induction o with
 |x8 a s=>exact qF
 |J8 i s=>exact qF
 |YH n k ih=>exact⟨λ h d hd=>(ih d).mp (h d hd),λ h d hd=>(ih d).B8 (h d hd)⟩
 |eJ=>exact qF
theorem mo{P:β->K1->Prop}{X:C0->K1->Prop}{m:M α}{f:α->M β}{σ:K1}:(F1 m f σ).P1 P X↔(m σ).P1 (λ a s=>(f a s).P1 P X) X:=I7.tR0
theorem r9{P:α->K1->Prop}{X:C0->K1->Prop}{w:C0}{o:Q1 α}{σ:K1}(h:(w5 w o σ).P1 P X):∃a,o=E0 a/\P a σ:=by
 cases o using Y9 with
 |H0=>exact V4
 |E0 a=>exact⟨a,O,h⟩
end
variable{B:Bs}
def wK(c:K0):Prop:=c=.U0 "tuple"\/c=.U0 "frame"\/c=.U0 "traceback"\/c=.U0 "code"\/c=.U0 "cell"
theorem vE.e9{G:Gh}{h:O1}{a:H1}{o:AO}(x:vE B G h a o)(hn:o≠.K4):∃ob,B3 a=E0 ob/\¬wK mA0:=by
 cases o using EA with
 |K4=>exact T3 O hn
 |M1 l=>obtain⟨vs,k,e,_⟩:=x;exact⟨_,e,by simp[wK]⟩
 |H2 l=>obtain⟨U2,⟨o,es,ep,e,hx,_⟩,_⟩:=x;exact⟨_,e,by rw[hx.1];simp[wK]⟩
 |V6 l=>obtain⟨U2,o,e,hc,_⟩:=x;exact⟨_,e,by rw[hc];simp[wK]⟩
 |u7 c d=>exact⟨_,x.1,by simp[wK]⟩
 |J8 cx c d=>obtain⟨vs,e,_⟩:=x;exact⟨_,e,by simp[wK]⟩
 |lA k=>obtain⟨o,e,hc⟩:=B.P30 k h a x;exact⟨o,e,by rw[hc];simp[wK]⟩
 |bm f s=>obtain⟨u,e,_⟩:=x;exact⟨_,e,by simp[wK]⟩
 |R4=>obtain⟨x,t,y,u,k,e⟩:=x;exact⟨_,e,by simp[wK]⟩
 |ti=>exact bD
theorem vE.D5{G G':Gh}{h h':O1}{a:H1}{o:AO}(x:vE B G h a o)(le:wN G')(Q0:zB E5 h h')(k3:UE h h')(ha:∀ob,B3 a=E0 ob->C3 a=E0 ob)
  (hd:∀d l,d<I3->O3 d=.V6 l->∃l',G'.AA d=.V6 l'):vE B G' h' a o:=by
 cases o using EA with
 |K4=>trivial
 |M1 l=>obtain⟨vs,k,e,r⟩:=x;exact⟨vs,k,ha _ e,UI le Q0⟩
 |H2 l=>obtain⟨U2,⟨o,es,ep,e,q⟩,r⟩:=x;exact⟨U2,⟨o,es,ep,ha _ e,q⟩,UI le Q0⟩
 |V6 l=>obtain⟨U2,o,e,hc,hn,nd,r⟩:=x;exact⟨U2,o,ha _ e,hc,hn.at λ o e=>ha _ e,nd,UI le Q0⟩
 |u7 c d=>
  obtain⟨e,hl,l,q⟩:=x;exact⟨by rw[BE d hl];exact ha _ e,U8 hl je,hd d l hl q⟩
 |J8 cx c d=>
  obtain⟨vs,e,hl,⟨l,q⟩,t⟩:=x;exact⟨vs,by rw[BE d hl];exact ha _ e,U8 hl je,hd d l hl q,k3.HW0 t⟩
 |lA k=>
  refine B.HI0 k h h' a (λ b o e q=>?_) x;rcases q with O|q
  ·exact ha _ e
  ·exact k3.YA b o e q
 |bm f s=>obtain⟨u,e,r⟩:=x;exact⟨u,ha _ e,UI le Q0⟩
 |R4=>obtain⟨x,t,y,u,k,e⟩:=x;exact⟨x,t,y,u,k,ha _ e⟩
 |ti=>exact bD
theorem Qg.VI0{G:Gh}{h:O1}(I:Qg B G h){b:H1}(x:u9 G b):∃ob,B3 b=E0 ob/\¬wK mA0:=by
 obtain⟨i,hi,hn,O⟩:=x;exact(I.NF i hi).e9 hn
theorem Qg.WI0{G:Gh}{h:O1}(I:Qg B G h){b:H1}(e:B3 b=H0):¬u9 G b:=λ x=>by
 obtain⟨ob,e',hn⟩:=I.VI0 x;rw[e]at e';contradiction
theorem cm{h h':O1}(k:∀b o,B3 b=E0 o->C3 b=E0 o):UE h h':=
 ⟨λ b o ts e c d=>⟨o,ts,k b o e,c,d,O⟩,λ b o e c d=>⟨o,k b o e,c,d⟩,λ b o e _=>k b o e⟩
theorem J1.rB{A:B6}{G:Gh}{s:D1}(g:J1 B A G s){h':O1}{tk:O6}(k:∀b o,E3 b=E0 o->C3 b=E0 o):
  J1 B A G {s with A3:=h',y3:=tk}/\Z2 B N2 G s G {s with A3:=h',y3:=tk}:=by
 have k3:=cm k;have Q0:zB E5 W0 h':=λ b vs n _ e=>k _ _ e;obtain⟨l,hl,hf⟩:=SJ;refine⟨⟨FE,⟨QG,λ i hi=>(GA i hi).D5 (.L5 G) Q0 k3 (λ ob e=>k _ _ e) λ d l _ e=>⟨l,e⟩,XL,vC,λ a ha=>⟨(xD a ha).1,by obtain⟨o,e⟩:=(xD a ha).2;exact⟨o,k _ _ e⟩⟩⟩,λ b o e h1 h2 h3=>k _ _ (QB b o e h1 h2 h3),
  qR _ _ (λ b o e _=>k _ _ e) gE,l,hl,Pf k3⟩,⟨h',tk,O⟩,.L5 G,λ b x=> .S2 x,λ b o e=>⟨o,k _ _ e⟩,λ b o e _ _ _=>⟨o,k _ _ e,.L5 o⟩,Q0,k3⟩
theorem J1.y3{A:B6}{G:Gh}{s:D1}(g:J1 B A G s)(tk:O6):J1 B A G {s with y3:=tk}/\Z2 B N2 G s G {s with y3:=tk}:=g.rB (h':=W0) λ _ _ e=>e
def Gh.OB(G:Gh)(o:AO)(a:H1):Gh:=⟨iL o,λ i=>if i=I3 then a else Y2 i,I5,E5⟩
theorem Gh.UW0(G:Gh)(o:AO)(a:H1):wN (o7 o a):=⟨LN _,λ i hi=>u3 (WC hi),O,A8 _,λ _ _=>O⟩
theorem fE(G:Gh)(o:AO)(a:H1)(j:C0):(o7 o a).σ.n8 j=if j=I3 then o else O3 j:=J_ ..
theorem J1.OB{A:B6}{G:Gh}{s:D1}(g:J1 B A G s){h':O1}{tk:O6}{a:H1}{o:AO}(k:∀b o,E3 b=E0 o->C3 b=E0 o)(ha:E3 a=H0)
  (hb:RH.hO<=a)(ho:vE B (o7 o a) h' a o):J1 B A (o7 o a) {s with A3:=h',y3:=tk}/\Z2 B N2 G s (o7 o a) {s with A3:=h',y3:=tk}:=by
 have k3:=cm k;have Q0:zB E5 W0 h':=λ b vs n _ e=>k _ _ e;have le:=iU o a;obtain⟨l,hl,hf⟩:=SJ;have lt:∀i,i<(o7 o a).σ.n->i<I3\/i=I3:=λ i hi=>Fh hi;have ne:∀i,i<I3->i≠I3:=λ i hi=>WC hi;have fr:∀i,i<I3->O3 i≠.K4->Y2 i≠a:=λ i hi hn e=>by
  obtain⟨ob,e',_⟩:=(GA i hi).e9 hn;rw[e,ha]at e';contradiction
 refine⟨⟨⟨Gn,Km,Bn⟩,⟨λ i j hi hj ni nj e=>?_,λ i hi=>?_,λ i hi=>?_,λ i hi hn=>?_,λ a ha=>⟨(xD a ha).1,by obtain⟨o,e⟩:=(xD a ha).2;exact⟨o,k _ _ e⟩⟩⟩,λ b o e h1 h2 h3=>k _ _ (QB b o e h1 h2 h3),
  qR _ _ (λ b o e _=>k _ _ e) gE,l,hl,Pf k3⟩,⟨h',tk,O⟩,le,λ b x=>?_,λ b o e=>⟨o,k _ _ e⟩,λ b o e _ _ _=>⟨o,k _ _ e,.L5 o⟩,Q0,k3⟩
 ·rw[fE]at ni nj;rcases lt i hi with hi|O<;>rcases lt j hj with hj|O
  ·rw[u3 (ne i hi)]at ni;rw[u3 (ne j hj)]at nj;rw[BE i hi,BE j hj]at e;exact QG i j hi hj ni nj e
  ·rw[u3 (ne i hi)]at ni;rw[BE i hi]at e;exact T3 (e.V2 (w3 O)) (fr i hi ni)
  ·rw[u3 (ne j hj)]at nj;rw[BE j hj]at e;exact T3 (Hd (w3 O)) (fr j hj nj)
  ·rfl
 ·rcases lt i hi with hi|O
  ·rw[fE,u3 (ne i hi),BE i hi];exact(GA i hi).D5 le Q0 k3 (λ ob e=>k _ _ e) λ d l hd e=>⟨l,by rw[fE,u3 (ne d hd)];exact e⟩
  ·rw[fE,w3 O,show(o7 o a).ρ I3=a from w3 O];exact ho
 ·have EM:I3+1<=i:=hi;rw[fE,u3 (by omega)];exact XL i (by exact GP ‹_›)
 ·rcases lt i hi with hi|O
  ·rw[fE,u3 (ne i hi)]at hn;rw[BE i hi];exact vC i hi hn
  ·rw[show(o7 o a).ρ I3=a from w3 O];exact NE hb
 ·obtain⟨i,hi,hn,O⟩:=x;rcases lt i hi with hi|O
  ·rw[fE,u3 (ne i hi)]at hn;rw[BE i hi];exact .S2 ⟨i,hi,hn,O⟩
  ·rw[show(o7 o a).ρ I3=a from w3 O];exact .L2 ha
def Gh.xl(G:Gh)(i:C0)(o:AO):Gh:=⟨G.VU i o,Y2,I5,E5⟩
theorem Gh.KW0(G:Gh)(i:C0)(o:AO):wN (aI i o):=⟨A8 _,λ _ _=>O,O,A8 _,λ _ _=>O⟩
theorem WU(G:Gh)(i:C0)(o:AO)(j:C0):(aI i o).σ.n8 j=if j=i then o else O3 j:=wy ..
theorem J1.xl{A:B6}{G:Gh}{s:D1}(g:J1 B A G s){h':O1}{tk:O6}{i:C0}{o:AO}(hi:i<I3)(hn:O3 i≠.K4)(xR:o≠.K4)
  (hd:∀l,O3 i=.V6 l->∃l',o=.V6 l')
  (k:∀b o,b≠Y2 i->E3 b=E0 o->C3 b=E0 o)(ho:vE B (aI i o) h' (Y2 i) o):
  J1 B A (aI i o) {s with A3:=h',y3:=tk}/\Z2 B N2 G s (aI i o) {s with A3:=h',y3:=tk}:=by
 obtain⟨ob,zR,Ca⟩:=(GA i hi).e9 hn;have hZ:∀b∈CG,b≠Y2 i:=λ b hb q=>by
  obtain⟨o,e⟩:=Sn b hb;rw[q,vC i hi hn]at e;contradiction
 have ne:∀{b jM},E3 b=E0 jM->wK jM.O2->b≠Y2 i:=λ e f q=>by rw[q,zR]at e;obtain O:=H3 e;exact Ca f
 have k3:UE W0 h':=⟨λ b o ts e c d=>⟨o,ts,k b o (ne e (.L2 (.L2 (.S2 c)))) e,c,d,O⟩,λ b o e c d=>⟨o,k b o (ne e (.L2 (.S2 c))) e,c,d⟩,λ b o e c=>k b o (ne e (.L2 (.L2 (.L2 (.S2 c.1))))) e⟩;have Q0:zB E5 W0 h':=λ b vs n _ e=>k _ _ (ne e (.S2 O)) e;have le:=Tn i o;obtain⟨l,hl,hf⟩:=SJ;have AE:∀b ob,E3 b=E0 ob->∃o',C3 b=E0 o':=λ b ob e=>by
  by_cases q:b=Y2 i
  ·obtain⟨jM,e',_⟩:=ho.e9 xR;exact⟨jM,q▸e'⟩
  ·exact⟨ob,k _ _ q e⟩
 have s9:∀b,u9 (aI i o) b->u9 G b:=λ b zz=>fU zz λ j hj WV e=>by
  rw[WU]at WV;by_cases q:j=i
  ·exact⟨j,hj,q▸hn,e⟩
  ·rw[u3 q]at WV;exact⟨j,hj,WV,e⟩
 refine⟨⟨⟨Gn,Km,Bn⟩,⟨λ a b ha hb na nb e=>?_,λ j hj=>?_,λ j hj=>?_,λ j hj WV=>?_,λ a ha=>⟨(xD a ha).1,by obtain⟨o,e⟩:=(xD a ha).2;exact AE a o e⟩⟩,λ b o e h1 h2 h3=>k _ _ (λ q=>?_) (QB b o e h1 h2 h3),
  qR _ _ (λ b o e hz=>k _ _ (AB0 (hZ b) λ c=>Bo (λ c=>ne e (.L2 (.L2 (.L2 (.S2 c.1))))) λ zz z=>wL zz λ x q=>by rw[z,vC i hi hn]at q;contradiction) e) gE,l,hl,Pf k3⟩,⟨h',tk,O⟩,le,λ b x=> .S2 (s9 b x),λ b o e=>?_,λ b o e h1 _ _=>⟨o,k _ _ (λ q=>h1 ⟨i,hi,hn,SK⟩) e,.L5 o⟩,Q0,k3⟩
 ·rw[WU]at na nb;refine QG a b ha hb (λ q=>?_) (λ q=>?_) e
  ·by_cases z:a=i
   ·exact hn (z▸q)
   ·rw[u3 z]at na;exact na q
  ·by_cases z:b=i
   ·exact hn (z▸q)
   ·rw[u3 z]at nb;exact nb q
 ·rw[WU];by_cases q:j=i
  ·rw[w3 q];exact q▸ho
  ·rw[u3 q];by_cases ha:O3 j=.K4
   ·rw[ha];trivial
   ·refine(GA j hj).D5 le Q0 k3 (λ ob e=>k _ _ (λ z=>q (QG j i hj hi ha hn z)) e) λ d l aA e=>?_;rw[WU];by_cases z:d=i
    ·rw[w3 z];exact hd l (z▸e)
    ·rw[u3 z];exact⟨l,e⟩
 ·rw[WU,u3 (λ q:j=i=>YZ _ (U8 hi (q▸hj)))];exact XL j hj
 ·rw[WU]at WV;by_cases z:j=i
  ·exact vC j hj (z▸hn)
  ·rw[u3 z]at WV;exact vC j hj WV
 ·have:=vC i hi hn;rw[<-q,e]at J2;contradiction
 ·exact AE b o e
end
end
section
section
variable{B:Bs}
noncomputable abbrev Bs.M(B:Bs):UB:=T4 bE kE
inductive Po{α β:Type}(B:Bs)(R:Gh->O1->α->β->Prop)(F:H1->Prop)(A:B6)(G:Gh)(s:D1)(P:α->K1->Prop)(b:β)(s':D1):Prop
 |mk(G':Gh)(a:α)(st:Z2 B F G s G' s')(g:J1 B A G' s')(r:R G' T6 a b)(p:P a tF)
inductive rG(G:Gh)(i:C0)(e:K0):Prop
 |mk(l:i<I3)(e1:e=.J0 (Y2 i))(cx:I1)(c d:C0)(n8:O3 i=.J8 cx c d)
inductive Px(B:Bs)(F:H1->Prop)(A:B6)(G:Gh)(s:D1)(X:C0->K1->Prop)(e:K0)(s':D1):Prop
 |mk(G':Gh)(i:C0)(st:Z2 B F G s G' s')(g:J1 B A G' s')(x:rG G' i e)(p:X i tF)
def U4{α β:Type}(B:Bs)(R:Gh->O1->α->β->Prop)(F:H1->Prop)(A:B6)(m:M α)(t:X7 β)(G:Gh)(s:D1):Prop:=
 ∀P X,(m R1).P1 P X->V0 R2 A t (Po B R F A G s P) (Px B F A G s X) s
section
variable{α β γ δ:Type}{R:Gh->Heap->α->β->Prop}{R':Gh->Heap->γ->δ->Prop}{F:Addr->Prop}{A:Around}{G G':Gh}{s s':Shared}
theorem Po.H8{P:α->K1->Prop}{b:β}{N7:D1}(st:Z2 B F G s G' s')(h:Po B R F A G' s' P b N7):Po B R F A G s P b N7:=
 let⟨TQ,a,x,g,r,p⟩:=h;⟨TQ,a,WN x,g,r,p⟩
theorem Px.H8{X:C0->K1->Prop}{e:K0}{N7:D1}(st:Z2 B F G s G' s')(h:Px B F A G' s' X e N7):Px B F A G s X e N7:=
 let⟨TQ,a,x,g,r,p⟩:=h;⟨TQ,a,WN x,g,r,p⟩
theorem U4.H8{m:M α}{t:X7 β}{P:α->K1->Prop}{X:C0->K1->Prop}(h:U4 B R F A m t G' s')(st:Z2 B F G s G' s')(a:(m tF).P1 P X):
  V0 R2 A t (Po B R F A G s P) (Px B F A G s X) s':=U3 (h P X a) (λ _ _=>Po.H8 st) λ _ _=>Px.H8 st
theorem U4.q8{m:M α}{t:X7 β}{f:α->M γ}{P:γ->K1->Prop}{X:C0->K1->Prop}{K:β->D1->Prop}(h:U4 B R F A m t G s)(a:(F1 m f R1).P1 P X)
  (k:∀G' s' a b,Z2 B F G s G' s'->J1 B A G' s'->R G' T6 a b->(f a tF).P1 P X->K b s'):V0 R2 A t K (Px B F A G s X) s:=
 U3 (h _ _ (j6 a)) (λ b s' ⟨G',a,st,g,r,p⟩=>k G' s' a b st g r p) λ _ _ x=>x
theorem U4.IE{m:M α}{t:X7 β}{f:α->M γ}{P:γ->K1->Prop}{X:C0->K1->Prop}{K:β->D1->Prop}(h:U4 B R F A m t G' s')(st:Z2 B F G s G' s')(a:(F1 m f tF).P1 P X)
  (k:∀YV N7 a b,Z2 B F G s YV N7->Z2 B F G' s' YV N7->J1 B A YV N7->R YV N7.A3 a b->(f a YV.σ).P1 P X->K b N7):V0 R2 A t K (Px B F A G s X) s':=
 U3 (h _ _ (j6 a)) (λ b N7 ⟨YV,a,QA,g,r,p⟩=>k YV N7 a b (WN QA) QA g r p) λ _ _ x=>x.H8 st
theorem Zz{P:α->K1->Prop}{a:α}{b:β}(g:J1 B A G s)(r:R G W0 a b)(p:P a R1):Po B R F A G s P b s:=⟨G,a,.L5 ..,g,r,p⟩
theorem pN{P:α->K1->Prop}{a:α}{b:β}(st:Z2 B F G s G' s')(g:J1 B A G' s')(r:R G' T6 a b)(p:P a tF):Po B R F A G s P b s':=⟨G',a,st,g,r,p⟩
theorem BD{w:C0}{t:X7 β}:U4 B R F A (F2 w:M α) t G s:=λ _ _ x=>bD
end
noncomputable abbrev RV:Gh->O1->PV->K0->Prop:=λ G h p v=>F3 G h p v
theorem XI0{c n d m:C0}(h:pC c n=pC d m)(h0:pC c n≠0):c=d/\n=m:=by
 unfold pC at h h0;cases hn:Y1 n 0 with
 |I0=>rw[hn]at h0;exact T3 O h0
 |R0=>
  cases hc:X6 c 1114112 with
  |R0=>rw[hn,hc]at h0;exact T3 O h0
  |I0=>
   rw[hn,hc]at h h0;cases hm:Y1 m 0 with
   |I0=>rw[hm]at h;exact T3 h h0
   |R0=>
    cases hd:X6 d 1114112 with
    |R0=>rw[hm,hd]at h;exact T3 h h0
    |I0=>
     rw[hm,hd]at h;have h1:c<1114112:=by simpa[EH]using hc
     have h2:d<1114112:=by simpa[EH]using hd
     have h3:c+1+1114113*n=d+1+1114113*m:=h;exact ω21 ‹_› ‹_› ‹_›
theorem Ds{c n:C0}(h0:pC c n≠0):pC c n≠1:=by
 unfold pC at h0 ⊢;cases hn:Y1 n 0 with
 |I0=>rw[hn]at h0;exact T3 O h0
 |R0=>
  cases hc:X6 c 1114112 with
  |R0=>rw[hn,hc]at h0;exact T3 O h0
  |I0=>
   have h1:n≠0:=tA hn;show c+1+1114113*n≠1;omega
theorem UY{c n:C0}(h0:pC c n≠0):n≠0:=by
 rintro O;exact h0 O
theorem YI0:∀{l m:P0 C0},Z7 l=Z7 m->Z7 l≠0->l=m:=by
 intro l;induction l with
 |B0=>
  intro m h h0;cases m using c5 with
  |B0=>rfl
  |A0 c m=>exact T3 MJ (Ds (show Z7 (c::m)≠0 from h▸h0))
 |A0 c l ih=>
  intro m h h0;cases m using c5 with
  |B0=>exact T3 h (Ds (h0:pC c (Z7 l)≠0))
  |A0 d m=>
   obtain⟨O,e⟩:=XI0 (h:pC c (Z7 l)=pC d (Z7 m)) h0;rw[ih e (UY h0)]
theorem cO{x y:C1}(h:vc x=vc y)(h0:vc x≠0):x=y:=by
 have:=YI0 h h0;obtain⟨⟨l⟩⟩:=x;obtain⟨⟨m⟩⟩:=y;simpa using J2
theorem Es(x:C0):H4 x .B0=H0:=O
theorem uH(x k:C0)(v r:PV):H4 x (.kv k v r)=if k=x then E0 v else H4 x r:=by
 show@O8 (λ _=>Q1 PV) (H4 x r) (E0 v) (Y1 k x)=_;cases h:Y1 k x with
 |I0=>rw[w3 (L6 h)]
 |R0=>rw[u3 (tA h)]
theorem WD(x:C0)(w:PV)(y:C0):∀l:PV,H4 y (z5 x w l)=if y=x then E0 w else H4 y l:=by
 have eA:∀l:PV,H4 y l=H0->H4 y (.kv x w .B0)=if y=x then E0 w else H4 y l:=λ l hl=>by
  rw[uH,Es,hl];by_cases h:y=x
  ·rw[w3 MJ,w3 h]
  ·rw[u3 (λ e=>h Ee),u3 h]
 intro l;induction l with
 |kv k v r _ ih=>
  show H4 y (bif Y1 k x then .kv k w r else .kv k v (z5 x w r))=_;cases h:Y1 k x with
  |I0=>
   have:=L6 h;subst J2;rw[rZ,uH,uH];by_cases e:k=y
   ·rw[w3 e,w3 Ee]
   ·rw[u3 e,u3 (λ q=>e SK),u3 e]
  |R0=>
   have:=tA h;rw[JH,uH,uH,ih];by_cases e:k=y
   ·subst e;rw[w3 O,u3 J2,w3 O]
   ·rw[u3 e,u3 e]
 |_=>exact eA _ O
def D0:C1->Prop:=λ y=>y=".0"
structure T5(B:Bs)(N0:o6)(D:C1->Prop)(O0:PV)(G:Gh)(h:O1):Prop where
 ns:∃m,aH LA m/\∀x v,zA x=E0 .F7->¬D x->vc x≠0->H4 (vc x) O0=E0 v->∃u,m x=E0 u/\F3 G h v u
 l6:∀x v,zA x=E0 .l6\/zA x=E0 .i7->vc x≠0->H4 (vc x) O0=E0 v->∃c u,jF x=E0 c/\h.WW c (E0 u)/\F3 G h v u
 Si:∀x c,jF x=E0 c->∃u,h.WW c u
 jU:∀x,zA x=E0 .l6->∃c,jF x=E0 c
 TP:∀x y c,jF x=E0 c->jF y=E0 c->x=y
 Ac:¬u9 G LA/\PG LA=H0/\LA∉CG
 Gs:∀x c,jF x=E0 c->¬u9 G c/\PG c=H0/\c∉CG
 YA:B.Ji N0.YA
theorem Cn{h h':O1}{a:H1}{m}(x:aH a m)(k:∀o,B3 a=E0 o->∃o',C3 a=E0 o'/\X_=F9):dm a m:=by
 symm;obtain⟨o,es,ep,e,d,r⟩:=x;obtain⟨o',e',d'⟩:=k o e;ext;exact⟨o',es,ep,e',d'.V2 d,r⟩
theorem WW.L3{h h':O1}{a:H1}{m}(x:h.WW a m)(k:∀o,B3 a=E0 o->∃o',C3 a=E0 o'/\X_=F9):a00 a m:=by
 obtain⟨o,e,d⟩:=x;obtain⟨o',e',d'⟩:=k o e;exact⟨o',e',d'.V2 d⟩
section
variable{F:Addr->Prop}{A:Around}{G G':Gh}{s s':Shared}{cenv:Env}{D:Str->Prop}{env:PV}
theorem Z2.L3{b:H1}{o:C4}(st:Z2 B F G s G' s')(e:E3 b=E0 o)(h1:¬u9 G b)(h2:¬F b)(h3:b∉CG)(h4:∀vs,F9≠.R5 vs):∃o',OL b=E0 o'/\X_=F9:=
 let⟨o',e',q⟩:=GX b o e h1 h2 h3;⟨o',e',q.LI0 h4⟩
theorem T5.J6(x:T5 B N0 D O0 G W0)(st:Z2 B F G s G' s')(hL:¬F LA)(hC:∀y c,jF y=E0 c->¬F c):T5 B N0 D O0 G' T6:=by
 obtain⟨m,hn,hm⟩:=x.ns;have kc:∀y c u,jF y=E0 c->s.pd c u->s'.pd c u:=λ y c u hl hc=>by
  obtain⟨o,e,d⟩:=id hc;exact WW.L3 hc λ o' e'=>B00 e' (vf y c hl).1 (hC y c hl) (vf y c hl).2.2 (by rw[e]at e';obtain O:=H3 e';rw[d];intro vs q;contradiction)
 have s9:∀b o,E3 b=E0 o->¬u9 G b->¬u9 G' b:=λ b o e n q=>by
  rcases Kf b q with h|h
  ·exact n h
  ·rw[e]at h;contradiction
 refine⟨⟨m,?_,λ y v h1 h2 h3 h4=>?_⟩,λ y v h1 h3 h4=>?_,λ y c hl=>?_,x.jU,x.TP,⟨?_,wf.2⟩,λ y c hl=>⟨?_,(vf y c hl).2⟩,m00⟩
 ·obtain⟨o,es,ep,e,d,_⟩:=id hn;exact Cn hn λ o' e'=>B00 e' wf.1 hL wf.2.2 (by rw[e]at e';obtain O:=H3 e';rw[d];intro vs q;contradiction)
 ·obtain⟨u,hu,r⟩:=hm y v h1 h2 h3 h4;exact⟨u,hu,v_ st⟩
 ·obtain⟨c,u,hl,hc,r⟩:=x.l6 y v h1 h3 h4;exact⟨c,u,hl,kc y c _ hl hc,v_ st⟩
 ·obtain⟨u,hu⟩:=x.Si y c hl;exact⟨u,kc y c u hl hu⟩
 ·obtain⟨o,_,_,e,_⟩:=hn;exact s9 _ o e wf.1
 ·obtain⟨u,o,e,_⟩:=x.Si y c hl;exact s9 _ o e (vf y c hl).1
theorem T5.RZ(x:T5 B N0 D O0 G W0)(st:Z2 B N2 G s G' s'):T5 B N0 D O0 G' T6:=x.J6 st (λ q=>q) λ _ _ _ q=>q
def C5(N0:o6)(L:P0 (C1×AR))(b:H1):Prop:=b=LA\/∃x,D9 x=E0 .l6/\jF x=E0 b
theorem J1.Hs{L:H1}{h':O1}{tk:O6}(g:J1 B A G s)(hL:¬u9 G L)(hb:PG L=H0)(hZ:L∉CG)
  (hk:∀b o,b≠L->E3 b=E0 o->C3 b=E0 o)(ho:∃o,E3 L=E0 o/\(∀vs n,o≠E8 vs n)/\(∀vs,F9≠.R5 vs)/\∃o',C3 L=E0 o'/\RK=F4/\∀vs,X_≠.R5 vs)
  (hF:F L):J1 B A G {s with A3:=h',y3:=tk}/\Z2 B F G s G {s with A3:=h',y3:=tk}:=by
 symm;obtain⟨oL,e,n1,n2,Bc,e',hc,hf⟩:=ho;have ne:∀{b o},E3 b=E0 o->o≠oL->b≠L:=λ x c q=>c (H3 (x.SZ (q▸e)));have k3:UE W0 h':=⟨λ b o ts x c d=>⟨o,ts,hk b o (ne x λ q=>n2 _ (q▸d)) x,c,d,O⟩,λ b o x c d=>by
  by_cases q:b=L
  ·obtain O:=H3 (Hd (q▸x));exact⟨Bc,q▸e',hc.V2 c,hf⟩
  ·exact⟨o,hk b o q x,c,d⟩,λ b o x c=>hk b o (ne x λ q=>wL c.2 λ _ y=>n2 _ (q▸y)) x⟩
 have Q0:zB E5 W0 h':=λ b vs n _ x=>hk _ _ (ne x λ q=>n1 vs n SK) x;obtain⟨l,hl,y8⟩:=SJ;ext;refine⟨⟨FE,⟨QG,λ i hi=>?_,XL,vC,λ a ha=>⟨(xD a ha).1,by obtain⟨o,e⟩:=(xD a ha).2;exact if q:a=L then⟨Bc,q▸e'⟩else⟨o,hk a o q e⟩⟩⟩,λ b o x h1 h2 h3=>hk _ _ (λ q=>by rw[q,hb]at x;contradiction) (QB b o x h1 h2 h3),
  qR _ _ (λ b o x z=>hk _ _ (λ q=>Ig (λ z=>hZ (q▸z)) λ z=>Ig (λ z=>ne x (λ r=>wL z.2 λ _ y=>n2 _ (r▸y)) q) λ zz=>wL zz λ y z=>by rw[q,hb]at z;contradiction) x) gE,l,hl,y8.JC k3⟩,⟨h',tk,O⟩,.L5 G,λ b x=> .S2 x,λ b o x=>?_,λ b o x h1 h2 h3=>⟨o,hk _ _ (λ q=>h2 (q▸hF)) x,.L5 o⟩,Q0,k3⟩
 ·by_cases ha:O3 i=.K4
  ·rw[ha];trivial
  ·exact(GA i hi).D5 (.L5 G) Q0 k3 (λ ob x=>hk _ _ (λ q=>hL ⟨i,hi,ha,q⟩) x) λ d l _ x=>⟨l,x⟩
 ·by_cases q:b=L
  ·exact⟨Bc,q▸e'⟩
  ·exact⟨o,hk b o q x⟩
end
end
end
section
section
variable{B:Bs}
structure R7(B:Bs)(g:C0->Q1 PV)where
 mg:C1->Q1 K0
 mb:C1->Q1 K0
 hmg:∀h,VD B h->aH HP mg
 hmb:∀h,VD B h->aH aW mb
 noLimit:∀h,VD B h->h.NoLimit
 Wm:∀x p,w4 x=I0->g (vc x)=E0 p->∃v,mg x=E0 v/\∀h av,VD B h->(∀a∈av,PG a=H0)->mJ av p h v
 bi:∀x v,(x,v)∈[((("len":C1)),OW "len"),("isinstance",.Z4 "isinstance"),("sorted",.Z4 "sorted"),("str",.U0 "str"),("tuple",.U0 "tuple"),("list",.U0 "list"),("dict",.U0 "dict"),
  ("zip",.U0 "zip"),("enumerate",.U0 "enumerate"),("range",.U0 "range")]->mg x=H0/\mb x=E0 v
structure j9(N0:o6)(L:y5):Prop where
 fn:BP=.pF
 F0:∀x,D9 x=E0 .F7->zA x=E0 .F7
 l6:∀x,D9 x=E0 .l6->zA x=E0 .l6
 i7:∀x,D9 x=E0 .i7->zA x=E0 .l6\/zA x=E0 .i7
 Wm:∀x,D9 x=E0 .LL->zA x=E0 .LL
 YE:PL=HP
 lF:N0.lF=aW
 Ti:zA "__class__"≠E0 .i7
structure sG(A:B6)(N0:o6)(L:y5):Prop extends j9 N0 L where
 DD:∃L0 e VK,VN=E0 (e::VK)/\e.DD=E0 L0/\bW=E0 L0
 nZ:C9=H0
theorem Js{G:Gh}{h:O1}{p:PV}{v:K0}(x:mJ E5 p h v):F3 G h p v:=
 (RY (MN _) (λ i hi=>T3 hi (NG i)) (λ b vs k hb e=>⟨hb,e⟩) (λ _ _ z=>Ig) (λ _ _ z=>Ig) (λ _ _ z=>Ig) p).1 v x
theorem xK{x:C1}(h:w4 x=I0):(x==("__debug__":C1))=R0/\(x==("__classdict__":C1))=R0/\vc x≠0:=by
 simp only[w4,N5,yO]at h;exact⟨h.1.1.1,h.1.1.2,tA h.2⟩
theorem ZI0{x:C1}(h:w4 x=I0):x≠".0":=by
 simp only[w4,N5,yO]at h;exact λ e=>by have:=h.1.2;rw[e]at J2;exact T3 J2 (by decide)
section
variable{g:Nat->Option PV}{A:Around}{G:Gh}{s:Shared}{cenv:Env}{L:Kinds}{D:Str->Prop}{env:PV}{P:PV->K1->Prop}{X:Nat->K1->Prop}{F:Addr->Prop}
theorem rI{E:K0->D1->Prop}(ES:j9 N0 L)(er:T5 B N0 D0 O0 G W0){x:C1}{p:Q3}{v:PV}(hn:w4 x=I0)(hl:l7 L x=I0)(hv:H4 (vc x) O0=E0 v){K:K0->D1->Prop}
  (hK:∀u,F3 G W0 v u->K u s):V0 R2 A (M5 (.Z3 x p) N0) K E s:=by
 obtain⟨n1,n2,n3⟩:=xK hn;refine qU0 ?_ n1;have cf:(zA x=E0 .l6\/zA x=E0 .i7)->V0 R2 A (loadName N0 x) K E s:=λ q=>by
  obtain⟨c,u,hc,hi,r⟩:=C00 x v q n3 hv;rcases q with k|k
  ·exact wpAny_loadName_cell aP k hc hi (hK u r)
  ·exact wpAny_loadName_free aP k hc hi (hK u r) n2
 rcases tB0 hl with q|q|q
 ·obtain⟨m,hm,hr⟩:=dU;obtain⟨u,hu,r⟩:=hr x v (az x q) (ZI0 hn) n3 hv;exact SS0 aP (az x q) hm hu (hK u r)
 ·exact cf (.S2 (D00 x q))
 ·exact cf (ES.i7 x q)
theorem S30(ES:j9 N0 L)(gd:J1 B A G s)(ER:T5 B N0 D0 O0 G W0){x:C1}{C2:Q3}(hn:w4 x=I0)(hl:l7 L x=I0):
  U4 B RV F A (w5 73 (H4 (vc x) O0)) (M5 (.Z3 x C2) N0) G s:=by
 intro P X M0;obtain⟨v,hv,hP⟩:=r9 M0;exact rI ES ER hn hl hv λ u r=> .CB gd r hP
theorem T30(BF:R7 B g)(ES:j9 N0 L)(gd:J1 B A G s){x:C1}{v:K0}(hv:QF x=E0 v)(hg:D7 L x=I0)(hd:(x==("__debug__":C1))=R0){p:Q3}{Q E:K0->D1->Prop}(h:Q v s):V0 R2 A (M5 (.Z3 x p) N0) Q E s:=by
 refine O80 aP (LA0 x (Qq hg)) (kS0 (mg:=QF) ?_ hv h) hd;rw[qn];exact Om _ EC
theorem ZV(BF:R7 B g)(ES:j9 N0 L)(gd:J1 B A G s){x:C1}{v:K0}(RA:QF x=H0/\RJ x=E0 v)(hg:D7 L x=I0)(hd:(x==("__debug__":C1))=R0){p:Q3}{Q E:K0->D1->Prop}(h:Q v s):
  V0 R2 A (M5 (.Z3 x p) N0) Q E s:=by
 refine O80 aP (LA0 x (Qq hg)) (loadGlobal_builtin (mg:=QF) (mb:=RJ) ?_ RA.1 ?_ RA.2 h) hd
 ·rw[qn];exact Om _ EC
 ·rw[ES.lF];exact BF.hmb _ EC
theorem U30(BF:R7 B g)(ES:j9 N0 L)(gd:J1 B A G s){x:C1}{C2:Q3}{p:PV}(hn:w4 x=I0)(hl:D7 L x=I0)(hp:g (vc x)=E0 p):
  U4 B RV F A (W1 p) (M5 (.Z3 x C2) N0) G s:=by
 obtain⟨n1,n2,n3⟩:=xK hn;intro P X M0;obtain⟨v,hv,hr⟩:=BF.Wm x p hn hp;exact T30 BF ES gd hv hl n1 (.CB gd (Js (hr _ _ EC λ a ha=>(Un a ha).1)) M0)
theorem Dx(gd:J1 B A G s){c:se}{k:C0}{C2:Q3}{p:PV}(h:UO c=.u0 p):U4 B RV F A (W1 p) (M5 (.G8 c k C2) N0) G s:=by
 intro P X M0;rw[arm_eval_Constant];symm;have gt:=KJ (X4+1);have nm:∀{b},N2 b->F b:=λ q=>P6;ext;cases c with
 |H0=>cases h;exact E2 (.CB (a:=OH) gd (DI0.B8 O) M0)
 |N3 b=>cases h;exact E2 (.CB (a:=PV.N3 b) gd (EI0.B8 O) M0)
 |j0 i=>cases h;exact K90 (.at (a:=aU i) (gt.2.D5 λ _ q=>P6) gt.1 (FI0.B8 ⟨_,O⟩) M0)
 |Y0 x=>
  change(bif Y1 (vc x) 0 then X00 else .u0 (.Y0 (vc x)))=C.u0 p at h;cases hx:Y1 (vc x) 0 with
  |I0=>rw[hx]at h;contradiction
  |R0=>
   rw[hx]at h;cases h;exact GU0 (.at (a:=PV.Y0 (vc x)) (gt.2.D5 λ _ q=>P6) gt.1 (L30.mk (tA hx) _ _ O O) M0)
 |_=>contradiction
theorem V30(W2:C1)(hash:A2)(k v:K0)(o:C4):(td W2 hash k v o).O2=F4:=by
 rw[C4.putName_eq];unfold C4.putNameByArray;obtain⟨c,d,dt,sl⟩:=o;cases dt with
 |H2 es ep=>
  dsimp only;generalize L90 _=r;cases r using Y9<;>rfl
 |_=>rfl
theorem W30{M:UB}{Γ:Ctx}{p:Q3}{a:H1}{m}{W2:C1}{v:K0}{Q:S7->Q3->D1->Prop}{E:K0->Q3->D1->Prop}(hn:s.eZ a m):
  X7.wp M Γ (xy a W2 v) Q E p s=((E3 a).sL=I0/\Q () p {s with A3:=NL a (td W2 (ib M.O5 W2) (.Y0 W2 X4) v),y3:=X4+1}):=by
 obtain⟨o,es,ep,ho,hd,hk,hm⟩:=hn;simp -u4 only[xy,strHash,X7.wp_bind',X7.wp_cmd_ask,X7.wp_pure',X7.wp_cmd_mkText];rw[X7.wp_loadPart_of M Γ E p {s with y3:=X4+1} (o:=o) _ ho];have hany:nA0 (·.Qm)=R0:=by
  rw[L4.any_eq_false'];intro e he;obtain⟨n,t,h⟩:=hk e he;simp[QN.Qm,h]
 simp only[hd,aRefKeyMayBeTheName_eq,aRefKeyMayBeTheNameByArray,hany,I1.and_false,vr,uZ,X7.wp_cmd_updatePart];rfl
theorem Ls{M:UB}{a:H1}{m}{W2:C1}{v:K0}{Q:S7->D1->Prop}{E:K0->D1->Prop}(hn:s.eZ a m)
  (h:∀h',dm a (λ x=>if x=W2 then E0 v else m x)->TA a W0 h'->(∀o,E3 a=E0 o->∃o',C3 a=E0 o'/\RK=F4)->Q () {s with A3:=h',y3:=X4+1}):
  V0 M A (xy a W2 v) Q E s:=by
 intro Γ p Sg;have T7:=X7.wp_nsSet M Γ (λ e _ s=>E e s) p s hn W2 v (λ _ _ s'=>yf a (λ x=>if x=W2 then E0 v else m x)/\TA a W0 T6) (λ h' h1 h2=>⟨h1,h2⟩);rw[W30 hn]at T7 ⊢;obtain⟨k0,k1,k2⟩:=T7;refine⟨k0,h _ k1 k2 λ o e=>?_⟩;obtain⟨o',_,_,e',_⟩:=id k1;refine⟨o',e',?_⟩;have e1:=(dq e').1;have e2:=(dq e).1;have:(NL a (td W2 (ib M.O5 W2) (.Y0 W2 X4) v)).SC[a]?=E0 (td W2 (ib M.O5 W2) (.Y0 W2 X4) v o):=by
  generalize W0=hp at e2 ⊢;cases hp;simp only[O1.GF,CT0,mW];simp only at e2;rw[e2];rfl
 rw[J2]at e1;obtain O:=H3 e1;exact V30 ..
theorem aI0{M:UB}{c:H1}{v₀ v:Q1 K0}{Q:S7->D1->Prop}{E:K0->D1->Prop}(hc:s.pd c v₀)
  (h:∀h',a00 c v->TA c W0 h'->(∀o,E3 c=E0 o->∃o',C3 c=E0 o'/\RK=F4)->Q () {s with A3:=h'}):V0 M A (cellSet c v) Q E s:=by
 obtain⟨o,ho,hd⟩:=hc;refine S0 (Wl ho ?_);rw[hd];exact wpAny_update ho (h _ ⟨{o with L3:=.l6 v},BH _ ho O,O⟩ (lr ..) λ o₁ e₁=>⟨{o with L3:=.l6 v},BH _ ho O,by rw[ho]at e₁;obtain O:=H3 e₁;rfl⟩)
theorem aV(ES:j9 N0 L)(gd:J1 B A G s)(ER:T5 B N0 D O0 G W0){x:C1}{p:PV}{v:K0}(hn:w4 x=I0)(hl:x6 L x=I0)(r:F3 G W0 p v)
  (hF:∀b,C5 N0 L b->F b){Q:S7->D1->Prop}{E:K0->D1->Prop}
  (h:∀s',Z2 B F G s G s'->J1 B A G s'->T5 B N0 (λ y=>D y/\y≠x) (z5 (vc x) p O0) G T6->Q () s'):V0 R2 A (jl N0 x v) Q E s:=by
 obtain⟨n1,n2,n3⟩:=xK hn;have J5:∀{y w},y≠x->vc y≠0->H4 (vc y) (z5 (vc x) p O0)=E0 w->H4 (vc y) O0=E0 w:=λ{y w} hy h0 e=>by
  rw[WD,u3 (λ q=>hy (cO q h0))]at e;exact e
 have h_:H4 (vc x) (z5 (vc x) p O0)=E0 p:=by rw[WD,w3 O]
 obtain⟨m,hm,hr⟩:=ER.ns;have hkp:(BP==.class||(BP==.pW&&LA !=PL))=R0:=by rw[aP];rfl
 obtain⟨oL,es,ep,eL,dL,-⟩:=id hm;have Ms:∀{y c},jF y=E0 c->c≠LA:=λ{y c} hc q=>by
  obtain⟨u,o,e,d⟩:=yy y c hc;rw[q,eL]at e;obtain O:=H3 e;rw[dL]at d;contradiction
 rcases uB0 hl with q|q
 ·have kx:=az x q;rw[p80 kx hkp];refine Ls hm λ h' AM LD aB=>?_;obtain⟨Bc,Da,Cc,e',d',-⟩:=id AM;obtain⟨LW0,xN,c₂⟩:=aB _ eL;rw[e']at xN;obtain O:=H3 xN;have Qs:∀vs n,oL≠E8 vs n:=λ vs n z=>by rw[z]at dL;contradiction
  have k:=o00;obtain⟨Tg,st⟩:=gd.Hs (F:=F) (tk:=X4+1) ye.1 ye.2.1 ye.2.2 (λ b o hb e=>k b o hb e)
   ⟨oL,eL,Qs,(λ vs z=>by rw[dL]at z;contradiction),Bc,e',c₂,λ vs z=>by rw[d']at z;contradiction⟩ (hF _ (.S2 O))
  ·refine h _ st Tg ⟨⟨_,AM,λ y w h1 h2 h3 h4=>?_⟩,λ y w h1 h3 h4=>?_,λ y c hc=>?_,oA0,ER.TP,ye,fm,ER.YA⟩
   ·by_cases hy:y=x
    ·subst hy;rw[h_]at h4;obtain O:=H3 h4;exact⟨v,w3 O,v_ st⟩
    ·obtain⟨u,hu,ru⟩:=hr y w h1 (λ d=>h2 ⟨d,hy⟩) h3 (J5 hy h3 h4);exact⟨u,(u3 hy).V2 hu,NK st⟩
   ·have hy:y≠x:=by rintro O;rw[kx]at h1;rcases h1 with h1|h1<;>contradiction
    obtain⟨c,u,hc,hi,ru⟩:=ER.l6 y w h1 h3 (J5 hy h3 h4);exact⟨c,u,hc,hi.Te LD (Ms hc),NK st⟩
   ·obtain⟨u,hi⟩:=yy y c hc;exact⟨u,hi.Te LD (Ms hc)⟩
 ·have kx:=D00 x q;obtain⟨c,hc⟩:=oA0 x kx;obtain⟨u₀,hi⟩:=yy x c hc;obtain⟨oC,eC,dC⟩:=id hi;rw[show jl N0 x v=Sy N0 x>>=λ c=>cellSet c (E0 v) by unfold jl;rw[kx,aP];rfl];refine S0 (wpAny_cellOf hc (aI0 hi λ h' EM LD aB=>?_));obtain⟨oC',e',d'⟩:=id EM;obtain⟨MW0,xN,c₂⟩:=aB _ eC;rw[e']at xN;obtain O:=H3 xN;have Qs:∀vs n,oC≠E8 vs n:=λ vs n z=>by rw[z]at dC;contradiction
  have k:=o00;obtain⟨Tg,st⟩:=gd.Hs (F:=F) (tk:=X4) (fm x c hc).1 (fm x c hc).2.1 (fm x c hc).2.2 (λ b o hb e=>k b o hb e)
   ⟨oC,eC,Qs,(λ vs z=>by rw[dC]at z;contradiction),oC',e',c₂,λ vs z=>by rw[d']at z;contradiction⟩ (hF _ (.L2 ⟨x,q,hc⟩))
  ·refine h _ st Tg ⟨⟨_,hm.Te LD (E9 (Ms hc)),λ y w h1 h2 h3 h4=>?_⟩,λ y w h1 h3 h4=>?_,λ y c' aB=>?_,oA0,ER.TP,ye,fm,ER.YA⟩
   ·have hy:y≠x:=by rintro O;rw[kx]at h1;contradiction
    obtain⟨u,hu,ru⟩:=hr y w h1 (λ d=>h2 ⟨d,hy⟩) h3 (J5 hy h3 h4);exact⟨u,hu,NK st⟩
   ·by_cases hy:y=x
    ·subst hy;rw[h_]at h4;obtain O:=H3 h4;exact⟨c,v,hc,EM,v_ st⟩
    ·obtain⟨c',u,aB,Az,ru⟩:=ER.l6 y w h1 h3 (J5 hy h3 h4);exact⟨c',u,aB,Az.Te LD (λ z=>hy (ER.TP y x c (z▸aB) hc)),NK st⟩
   ·by_cases hy:c'=c
    ·subst hy;exact⟨_,EM⟩
    ·obtain⟨u,Az⟩:=yy y c' aB;exact⟨u,Az.Te LD hy⟩
end
end
end
section
section
structure TS(σ:K1)(τ:C0->Ty)(Z5:K1)(R3:C0->Ty):Prop where
 t:Z5.t=KX
 n:Z5.n=tJ
 m:D6<=Z5.m
 τ:∀i,i<D6->R3 i=τ i
theorem TS.L5(σ:K1)(τ:C0->Ty):TS σ τ σ τ:=⟨O,O,A8 _,λ _ _=>O⟩
theorem TS.V2{σ₁ Af σ₃:K1}{X30 kM Y30:C0->Ty}(x:TS σ₁ X30 Af kM)(y:TS Af kM σ₃ Y30):TS σ₁ X30 σ₃ Y30:=
 ⟨y.t.V2 x.t,y.n.V2 x.n,W6 x.m y.m,λ i hi=>(y.τ i (U8 hi x.m)).V2 (x.τ i hi)⟩
def Gm{α:Type}(R:(C0->Ty)->K1->α->Prop)(m:M α)(τ:C0->Ty)(σ:K1):Prop:=
 iA τ σ->∀P X,(m σ).P1 P X->∃R3 Z5 a,TS σ τ Z5 R3/\iA R3 Z5/\R R3 Z5 a/\P a Z5
section
variable{α β:Type}{R:(Nat->Ty)->K1->α->Prop}{R':(Nat->Ty)->K1->β->Prop}{τ:Nat->Ty}{σ:K1}
theorem o8{a:α}(r:R τ σ a):Gm R (W1 a) τ σ:=λ ok P X h=>⟨τ,σ,a,.L5 ..,ok,r,h⟩
theorem WA{w:C0}:Gm R (F2 w) τ σ:=λ ok P X h=>V4
theorem Qf{m:M α}{f:α->M β}(h:Gm R m τ σ)(k:∀R3 Z5 a,TS σ τ Z5 R3->iA R3 Z5->R R3 Z5 a->Gm R' (f a) R3 Z5):Gm R' (F1 m f) τ σ:=λ ok P X M0=>by
 obtain⟨R3,Z5,a,ts,f8,r,hp⟩:=h ok _ _ (j6 M0);obtain⟨bI0,cI0,b,fH,dI0,r',Ss⟩:=k R3 Z5 a ts f8 r f8 P X hp;exact⟨bI0,cI0,b,ts.V2 fH,dI0,r',Ss⟩
theorem Gm.D5{m:M α}{Z30:(C0->Ty)->K1->α->Prop}(h:Gm R m τ σ)(k:∀R3 Z5 a,TS σ τ Z5 R3->iA R3 Z5->R R3 Z5 a->Z30 R3 Z5 a):Gm Z30 m τ σ:=λ ok P X M0=>by
 obtain⟨R3,Z5,a,ts,f8,r,hp⟩:=h ok P X M0;exact⟨R3,Z5,a,ts,f8,k _ _ _ ts f8 r,hp⟩
theorem XU{w:C0}{b:I1}{m:M α}(h:b=I0->Gm R m τ σ):Gm R (kA w b m) τ σ:=by
 cases b using n7 with
 |I0=>exact h O
 |R0=>exact WA
theorem Q_{m m':M α}(e:m σ=m' σ)(h:Gm R m' τ σ):Gm R m τ σ:=λ ok P X M0=>h ok P X (e▸M0)
end
theorem pJ{τ:C0->Ty}{σ:K1}(ok:iA τ σ){i:C0}(hi:i<D6):G7 i<D6/\τ (G7 i)=τ i:=by
 unfold K1.der;generalize 6=n;induction n generalizing i with
 |i9=>exact⟨hi,O⟩
 |c9 n ih=>
  have h:=cN i hi;show(match V8 i with|.al j=>_|_=>i)<D6/\τ (match V8 i with|.al j=>_|_=>i)=τ i;cases e:V8 i with
  |al j=>
   rw[e]at h;obtain⟨h1,h2⟩:=h;have:=ih h1;exact⟨J2.1,J2.2.V2 E00⟩
  |_=>exact⟨hi,O⟩
theorem eI0(σ:K1)(i:C0)(x:TI)(j:C0):(lN i x).ti j=if j=i then x else V8 j:=by
 show K1.Bp ((Oy (.ti x) i).l9 j)=_;rw[IH];split<;>rfl
theorem fI0(σ:K1)(x:TI)(j:C0):(eU x).ti j=if j=D6 then x else V8 j:=by
 show K1.Bp ((Oy (.ti x) D6).l9 j)=_;rw[IH];split<;>rfl
theorem UQ.D5{τ R3:C0->Ty}{m m':C0}(hm:m<=m')(rC:∀i,i<m->R3 i=τ i){i:C0}(hi:i<m){x:TI}(h:UQ τ m i x):UQ R3 m' i x:=by
 cases x using lf with
 |OC k d=>unfold UQ at h ⊢;rw[rC i hi];exact h
 |al j=>obtain⟨h1,h2⟩:=h;exact⟨U8 h1 hm,by rw[rC i hi,rC j h1];exact h2⟩
 |eA k=>unfold UQ at h ⊢;rw[rC i hi];exact h
 |W8 j=>obtain⟨h1,h2⟩:=h;exact⟨U8 h1 hm,by rw[rC i hi,rC j h1];exact h2⟩
 |X8 j=>obtain⟨h1,h2⟩:=h;exact⟨U8 h1 hm,by rw[rC i hi,rC j h1];exact h2⟩
theorem iA.XJ{τ:C0->Ty}{σ:K1}(ok:iA τ σ){i:C0}{x:TI}(h:UQ τ D6 i x):iA τ (lN i x):=
 ⟨CX,λ j hj=>by
  rw[eI0];by_cases e:j=i
  ·subst e;rw[w3 O];exact h
  ·rw[u3 e];exact cN j hj,im⟩
theorem TS.XJ(σ:K1)(τ:C0->Ty)(i:C0)(x:TI):TS σ τ (lN i x) τ:=⟨O,O,A8 _,λ _ _=>O⟩
theorem iA.Cp{τ R3:C0->Ty}{σ:K1}(ok:iA τ σ){x:TI}(rC:∀i,i<D6->R3 i=τ i)(hd:(R3 D6).dI<=2)(h:UQ R3 (D6+1) D6 x):iA R3 (eU x):=by
 have lt:∀{i},i<(eU x).m->i<D6\/i=D6:=λ hi=>Fh hi;refine⟨λ i hi=>?_,λ i hi=>?_,λ p hp=>?_⟩
 ·rcases lt hi with hi|O
  ·rw[rC i hi];exact CX i hi
  ·exact hd
 ·rw[fI0];rcases lt hi with hi|O
  ·rw[u3 (WC hi)];exact(cN i hi).D5 (LN _) rC hi
  ·rw[w3 O];exact h
 ·obtain⟨h1,h2,h3⟩:=im p hp;exact⟨FW h1,FW h2,by rw[rC _ h1,rC _ h2];exact h3⟩
theorem TS.Cp{σ:K1}{τ R3:C0->Ty}{x:TI}(rC:∀i,i<D6->R3 i=τ i):TS σ τ (eU x) R3:=⟨O,O,LN _,rC⟩
theorem iA.rX{τ:C0->Ty}{σ:K1}(ok:iA τ σ){i j:C0}(hi:i<D6)(hj:j<D6)(h:τ i≠τ j):iA τ (fy i j):=
 ⟨CX,cN,λ p hp=>by
  rcases dA hp with O|hp
  ·exact⟨hi,hj,h⟩
  ·exact im p hp⟩
theorem TS.rX(σ:K1)(τ:C0->Ty)(i j:C0):TS σ τ (fy i j) τ:=⟨O,O,A8 _,λ _ _=>O⟩
theorem qS(t:Ty):k_<5:=by
 cases t using OG<;>exact i6 (m:=5) O
theorem gI0:∀(m:gH 32)(k j:gH 5),mC m.1 k.1=I0->j.1≠k.1->mC m.1 j.1=I0->(MH m.1 (MK 2 k.1)<32/\mC (MH m.1 (MK 2 k.1)) j.1=I0):=by decide +E7
theorem iI0(m)(hm:m<32)(k)(hk:k<5)(j)(hj:j<5):mC m k=I0->j≠k->mC m j=I0->(MH m (MK 2 k)<32/\mC (MH m (MK 2 k)) j=I0):=gI0 ⟨m,hm⟩ ⟨k,hk⟩ ⟨j,hj⟩
theorem jI0:∀k,k<5->∀j,j<5->mC (MK 2 k) j=I0->j=k:=by decide +E7
theorem kI0:∀(m n:gH 32)(j:gH 5),mC m.1 j.1=I0->mC n.1 j.1=I0->OP m.1 n.1<32/\Y1 (OP m.1 n.1) 0=R0/\mC (OP m.1 n.1) j.1=I0:=by decide +E7
theorem a30(m)(hm:m<32)(n)(hn:n<32)(j)(hj:j<5)(h1:mC m j=I0)(h2:mC n j=I0):OP m n<32/\Y1 (OP m n) 0=R0/\mC (OP m n) j=I0:=kI0 ⟨m,hm⟩ ⟨n,hn⟩ ⟨j,hj⟩ h1 h2
theorem lI0(t:Ty)(d:C0)(h:uR<=d):rL d<32/\mC (rL d) k_=I0:=by
 unfold rL;cases hd:Y1 d 0 with
 |I0=>
  have:d=0:=L6 hd;subst J2;cases t using OG with
  |W8 t=>exact T3 h (fi _)
  |X8 t=>exact T3 h (fi _)
  |_=>decide
 |R0=>cases t using OG<;>exact⟨by decide,by first|decide|(show mC _ 3=I0;decide)|(show mC _ 4=I0;decide)⟩
def Ty.Ui:Ty->Ty
 |.W8 t=>t
 |.X8 t=>t
 |t=>t
theorem bV{s t:Ty}(h:Vn<3)(e:Vn=k_):s=t:=by
 cases s using OG<;>cases t using OG<;>first|rfl|exact T3 e (tA O)|exact T3 h (sb (i6 O))
theorem b30{τ:C0->Ty}{σ:K1}(ok:iA τ σ){i k m d:C0}(hi:i<D6)(hk:(τ i).hd=k)(NW0:(τ i).dI<=d){P:S7->K1->Prop}{X}(h:(zZ i k d σ).P1 P X):
  ∃R3 Z5,TS σ τ Z5 R3/\iA R3 Z5/\P () Z5:=by
 unfold zZ at h;cases hb:X6 k 3 with
 |I0=>
  rw[hb]at h;have VQ:k<3:=uk hb;exact⟨τ,_,.XJ ..,ok.XJ (i:=i) (x:=.eA k) ⟨VQ,hk⟩,h⟩
 |R0=>
  rw[hb]at h;have VQ:¬k<3:=λ q=>by rw[EH.B8 q]at hb;contradiction
  let R3:C0->Ty:=λ x=>if x=D6 then(τ i).Ui else τ x
  have rC:∀j,j<D6->R3 j=τ j:=λ j hj=>u3 (WC hj);have hn:R3 D6=(τ i).Ui:=w3 O;have Ea:(τ i).Ui.dI+1=(τ i).dI:=by
   revert VQ;rw[<-hk];cases τ i<;>first|exact λ _=>O|exact λ q=>T3 (i6 O) q
  have Us:iA R3 (eU (.OC (rL (yZ d)) (yZ d))):=ok.Cp rC (by rw[hn];have:=CX i hi;exact ω48 ‹_› ‹_›) (by
   unfold UQ;rw[hn];have:(τ i).Ui.dI<=yZ d:=by show _<=d-1;exact ω44 ‹_› ‹_›
   have b:=lI0 _ _ J2;exact⟨b.1,b.2,J2⟩)
  refine⟨R3,_,(TS.Cp rC).V2 (.XJ ..),Us.XJ (i:=i) ?_,h⟩;have h5:=qS (τ i);have EM:i<D6+1:=FW hi;unfold mkT;cases hk4:Y1 k 3 with
  |I0=>
   have:k=3:=L6 hk4;refine⟨rD _,?_⟩;rw[rC i hi,hn];revert hk;subst J2;cases τ i<;>first|exact λ _=>O|exact λ q=>T3 q (tA O)
  |R0=>
   have:k≠3:=tA hk4;have:k=4:=by exact ω34 ‹_› ‹_› ‹_› ‹_›
   refine⟨rD _,?_⟩;rw[rC i hi,hn];revert hk;subst J2;cases τ i<;>first|exact λ _=>O|exact λ q=>T3 q (tA O)
theorem mI0{τ:C0->Ty}{σ:K1}(ok:iA τ σ){i k:C0}(h:dy i k=I0):(τ i).hd≠k:=by
 unfold K1.dB0 at h;have Y6:=im;revert h Y6;generalize jP=l;intro h Y6;induction l with
 |B0=>contradiction
 |A0 p l ih=>
  have hp:=Y6 p (TE ..);have I4:=λ h=>ih h λ q hq=>Y6 q (yB _ hq);have T7:∀a b,a<D6->b<D6->τ a≠τ b->Y1 (G7 a) i=I0->jm k (V8 (G7 b))=I0->(τ i).hd≠k:=λ a b ha hb hn h1 h2 e=>by
   have e1:G7 a=i:=L6 h1;have d1:=pJ ok ha;have d2:=pJ ok hb;have i2:=cN _ d2.1;generalize hx:V8 (G7 b)=zo at h2;cases zo using lf with
   |eA j=>
    rw[hx]at i2;have hj:j=k:=L6 h2;obtain⟨k1,k2⟩:=i2;subst hj;have q1:τ i=τ a:=e1▸d1.2;exact hn (by rw[<-q1,<-d2.2];exact bV (by exact ω101 ‹_› ‹_› ‹_›) (by exact Eq.V2 ‹_› (BB0 ‹_›)))
   |_=>contradiction
  change(bif Y1 (G7 p.1) i then(bif jm k (V8 (G7 p.2))then I0 else _)else bif Y1 (G7 p.2) i then(bif jm k (V8 (G7 p.1))then I0 else _)else _)=I0 at h;cases h1:Y1 (G7 p.1) i with
  |I0=>
   rw[h1,rZ]at h;cases h2:jm k (V8 (G7 p.2))with
   |I0=>exact T7 _ _ hp.1 hp.2.1 hp.2.2 h1 h2
   |R0=>rw[h2,JH]at h;exact I4 h
  |R0=>
   rw[h1,JH]at h;cases h3:Y1 (G7 p.2) i with
   |I0=>
    rw[h3,rZ]at h;cases h2:jm k (V8 (G7 p.1))with
    |I0=>exact T7 _ _ hp.2.1 hp.1 (λ q=>hp.2.2 SK) h3 h2
    |R0=>rw[h2,JH]at h;exact I4 h
   |R0=>rw[h3,JH]at h;exact I4 h
theorem c30{i j a b:C0}(h:Bz i j a b=I0):(a=i/\b=j)\/(a=j/\b=i):=by
 symm;unfold Bz at h;cases h1:Y1 a i with
 |I0=>
  ext;rw[h1]at h;exact .S2 ⟨L6 h1,L6 h⟩
 |R0=>
  rw[h1,JH]at h;cases h2:Y1 a j with
  |I0=>
   ext;rw[h2]at h;exact .L2 ⟨L6 h2,L6 h⟩
  |R0=>
   ext;rw[h2]at h;contradiction
theorem nI0{a b:TI}{q:C0×C0}(h:K1.cy a b=E0 q):(a=.W8 q.1/\b=.W8 q.2)\/(a=.X8 q.1/\b=.X8 q.2):=by
 cases a using lf with
 |W8 i=>
  cases b using lf with
  |W8 j=>obtain O:=H3 h;exact .S2 ⟨O,O⟩
  |_=>contradiction
 |X8 i=>
  cases b using lf with
  |X8 j=>obtain O:=H3 h;exact .L2 ⟨O,O⟩
  |_=>contradiction
 |_=>contradiction
theorem oI0{τ:C0->Ty}{σ:K1}(ok:iA τ σ){i j:C0}(h:JA0 i j=I0):τ i≠τ j:=by
 unfold K1.isNe at h;have Y6:=im;revert h Y6;generalize jP=l;intro h Y6;induction l with
 |B0=>contradiction
 |A0 p l ih=>
  have hp:=Y6 p (TE ..);change(bif σ.cB0 i j p then I0 else _)=I0 at h;cases h1:σ.cB0 i j p with
  |R0=>rw[h1,JH]at h;exact ih h λ q hq=>Y6 q (yB _ hq)
  |I0=>
   unfold K1.cB0 at h1;cases h2:Bz i j p.1 p.2 with
   |I0=>
    rcases c30 h2 with⟨e1,e2⟩|⟨e1,e2⟩
    ·rw[<-e1,<-e2];exact hp.2.2
    ·rw[<-e1,<-e2];exact λ q=>hp.2.2 SK
   |R0=>
    rw[h2,JH]at h1;cases h3:K1.cy (V8 (G7 p.1)) (V8 (G7 p.2))with
    |H0=>rw[h3]at h1;contradiction
    |E0 q=>
     rw[h3]at h1;change Bz i j (G7 q.1) (G7 q.2)=I0 at h1;have d1:=pJ ok hp.1;have d2:=pJ ok hp.2.1;have i1:=cN _ d1.1;have i2:=cN _ d2.1;have:q.1<D6/\q.2<D6/\τ q.1≠τ q.2:=by
      rcases nI0 h3 with⟨ea,eb⟩|⟨ea,eb⟩
      ·rw[ea]at i1;rw[eb]at i2;exact⟨i1.1,i2.1,λ z=>hp.2.2 (by rw[<-d1.2,<-d2.2,i1.2,i2.2];exact G6 pA0 z)⟩
      ·rw[ea]at i1;rw[eb]at i2;exact⟨i1.1,i2.1,λ z=>hp.2.2 (by rw[<-d1.2,<-d2.2,i1.2,i2.2];exact G6 qA0 z)⟩
     have q1:=pJ ok J2.1;have q2:=pJ ok J2.2.1;rcases c30 h1 with⟨e1,e2⟩|⟨e1,e2⟩
     ·rw[<-e1,<-e2,q1.2,q2.2];exact J2.2.2
     ·rw[<-e1,<-e2,q1.2,q2.2];exact λ q=>J2.2.2 SK
theorem d30{τ:C0->Ty}{σ:K1}{i k m d:C0}(hi:i<D6)(hk:k<5)(h1:m<32)(h2:mC m (τ i).hd=I0)(h3:(τ i).dI<=d):
  Gm (λ R3 Z5 t=>t=Y1 (τ i).hd k) (uX i k m d) τ σ:=by
 intro ok P X M0;unfold uX at M0;have Ro:mC m k=I0->(τ i).hd≠k->iA τ (lN i (.OC (MH m (MK 2 k)) d)):=λ hb hn=>by
  have:=iI0 m h1 k hk _ (qS (τ i)) hb hn h2;exact ok.XJ ⟨J2.1,J2.2,h3⟩
 have Vs:∀{x y:C0},x≠y->R0=Y1 x y:=λ h=>by
  rename_i x y;cases e:Y1 x y with
  |I0=>exact T3 (L6 e) h
  |R0=>rfl
 have tru:(τ i).hd=k->I0=Y1 (τ i).hd k:=λ h=>by rw[h,fZ]
 cases hb:mC m k with
 |R0=>
  rw[hb]at M0;exact⟨τ,σ,R0,.L5 ..,ok,Vs (λ e=>by rw[e,hb]at h2;contradiction),M0⟩
 |I0=>
  rw[hb]at M0;change((bif dy i k then(λ σ=>I7.x8 R0 (lN i (.OC (MH m (MK 2 k)) d)):M I1)else bif Y1 m (MK 2 k)then F1 (zZ i k d) (λ _=>W1 I0)
   else λ σ=> .YH 2 (λ x=>bif Y1 x 0 then F1 (zZ i k d) (λ _=>W1 I0) σ else .x8 R0 (lN i (.OC (MH m (MK 2 k)) d)))) σ).P1 P X at M0
  cases hc:dy i k with
  |I0=>
   rw[hc]at M0;have hn:=mI0 ok hc;exact⟨τ,_,R0,.XJ ..,Ro hb hn,Vs hn,M0⟩
  |R0=>
   rw[hc]at M0;cases hm:Y1 m (MK 2 k)with
   |I0=>
    rw[hm]at M0;have:(τ i).hd=k:=jI0 k hk _ (qS _) (by rw[<-L6 hm];exact h2);obtain⟨R3,Z5,ts,f8,p⟩:=b30 (m:=m) ok hi J2 h3 (j6 M0);exact⟨R3,Z5,I0,ts,f8,tru J2,p⟩
   |R0=>
    rw[hm]at M0;by_cases e:(τ i).hd=k
    ·have:=M0 0 (by decide);obtain⟨R3,Z5,ts,f8,p⟩:=b30 (m:=m) ok hi e h3 (j6 J2);exact⟨R3,Z5,I0,ts,f8,tru e,p⟩
    ·have:=M0 1 (by decide);exact⟨τ,_,R0,.XJ ..,Ro hb e,Vs e,J2⟩
theorem rS{x y:C0}(h:x≠y):Y1 x y=R0:=by
 cases e:Y1 x y with
 |I0=>exact T3 (L6 e) h
 |R0=>rfl
theorem Ws{τ:C0->Ty}{σ:K1}{i k:C0}(hi:i<D6)(hk:k<5):
  Gm (λ R3 Z5 t=>t=Y1 (τ i).hd k) (Na i k (V8 i)) τ σ:=by
 intro ok;have S9:=cN i hi;revert ok;cases hx:V8 i with
 |eA j=>rw[hx]at S9;exact o8 (by rw[S9.2])
 |W8 j=>rw[hx]at S9;exact o8 (by rw[S9.2];rfl)
 |X8 j=>rw[hx]at S9;exact o8 (by rw[S9.2];rfl)
 |al j=>exact WA
 |OC m d=>
  rw[hx]at S9;obtain⟨i1,i2,i3⟩:=S9;show Gm _ (bif Y1 d 0 then(bif X6 k 3 then uX i k m d else W1 R0)else uX i k m d) τ σ;cases hd:Y1 d 0 with
  |R0=>exact d30 hi hk i1 i2 i3
  |I0=>
   cases hb:X6 k 3 with
   |I0=>exact d30 hi hk i1 i2 i3
   |R0=>
    have VQ:¬k<3:=λ q=>by rw[EH.B8 q]at hb;contradiction
    have:d=0:=L6 hd;subst J2;refine o8 (BB0 (rS λ e=>VQ ?_));rw[<-e];revert i3;cases τ i<;>first|exact λ _=>i6 (m:=3) O|exact λ q=>T3 q (fi _)
def qA(n:C0):C1:=open Classical in if h:∃s:C1,vc s=n then w90 else ""
theorem Xs{s:C1}(h:vc s≠0):qA (vc s)=s:=by
 have hx:∃s':C1,vc s'=vc s:=⟨s,O⟩;unfold qA;rw[dif_pos hx];exact(cO hx.choose_spec.Y3 h).Y3
def tG(n:C0):Prop:=n≠0/\∃s:C1,vc s=n
theorem pI0{n m:C0}(hn:tG n)(hm:tG m)(h:qA n=qA m):n=m:=by
 obtain⟨n0,s,O⟩:=hn;obtain⟨m0,t,O⟩:=hm;rw[Xs n0,Xs m0]at h;rw[h]
theorem Dc{n m:C0}(hn:tG n)(hm:tG m):(qA n==qA m)=Y1 n m:=by
 cases e:Y1 n m with
 |I0=>rw[L6 e];simp
 |R0=>
  have:n≠m:=tA e;simpa using λ q=>J2 (pI0 hn hm q)
theorem sS{s:C1}{n:C0}(h:(Y1 (vc s) n&&!Y1 n 0)=I0):tG n:=by
 simp only[N5,yO]at h;exact⟨tA h.2,s,L6 h.1⟩
theorem e30:tG sX:=sS (s:="int") (by decide +E7)
theorem f30:tG sU:=sS (s:="bool") (by decide +E7)
theorem g30:tG tX:=sS (s:="param") (by decide +E7)
theorem i30:tG tU:=sS (s:="box") (by decide +E7)
theorem j30:tG uU:=sS (s:="adt") (by decide +E7)
theorem qI0:tG ng:=sS (s:="u8") (by decide +E7)
theorem rI0:tG nX:=sS (s:="X") (by decide +E7)
theorem code_S:tG nS:=sS (s:="S") (by decide +E7)
def dO(T W K:C0->CA)(p:PV):CA×P0 CA:=
 @P_ (λ _=>CA×P0 CA) (.H0,[]) (λ b=>(.N3 b,[])) (λ i=>(.j0 i,[])) (λ n=>(.Y0 (qA n),[])) (λ _=>(.H0,[]))
  (.H0,[]) (λ _ _ a r=>(.H0,a.1::r.2)) (λ _ _ _ _ _=>(.H0,[])) (λ _ l=>(.HD l.2,[])) (λ _=>(.H0,[])) (λ _=>(.H0,[]))
  (λ i=>(T i,[])) (λ i=>(W i,[])) (λ i=>(K i,[])) p
def VY(_:C0):CA:=.H0
def WY(p:PV):CA:=(dO VY VY VY p).1
def dT(τ:C0->Ty)(i:C0):CA:=WY (τ i).p
def dW(τ:C0->Ty)(i:C0):CA:=WY (τ i).w
def dK(τ:C0->Ty)(i:C0):CA:=.Y0 (qA (FD (τ i).hd))
def DG(τ:C0->Ty)(p:PV):CA:=(dO (dT τ) (dW τ) (dK τ) p).1
def K9(τ:C0->Ty)(p:PV):P0 CA:=(dO (dT τ) (dW τ) (dK τ) p).2
theorem l30{τ a r}:K9 τ (.A0 a r)=DG τ a::K9 τ r:=O
theorem m30{τ l}:DG τ (.Q0 l)=.HD (K9 τ l):=O
def Vd(m:C0):PV->Prop
 |.H0=>lP|.N3 _=>lP|.j0 _=>lP
 |.Y0 n=>tG n
 |.B0=>lP
 |.A0 a r=>Vd m a/\Vd m r
 |.Q0 l=>Vd m l
 |.ty i=>i<m|.wr i=>i<m|.lC i=>i<m
 |_=>I6
theorem Vd.D5{m m':C0}(h:m<=m'):∀{p:PV},Vd m p->Vd m' p:=by
 intro p;induction p with
 |A0 a r IG PA=>exact λ x=>⟨IG x.1,PA x.2⟩
 |Q0 l ih=>exact ih
 |ty i|wr i|lC i=>exact λ x=>U8 x h
 |_=>exact λ x=>x
theorem fF{σ Z5:K1}{τ R3:C0->Ty}(ts:TS σ τ Z5 R3):∀{p:PV},Vd D6 p->DG R3 p=DG τ p/\K9 R3 p=K9 τ p:=by
 intro p;induction p with
 |A0 a r IG PA=>exact λ x=>⟨O,by rw[l30,l30,(IG x.1).1,(PA x.2).2]⟩
 |Q0 l ih=>exact λ x=>⟨by rw[m30,m30,(ih x).2],O⟩
 |ty i=>exact λ x=>⟨G6 (λ t=>WY (Ty.p t)) (vF i x),O⟩
 |wr i=>exact λ x=>⟨G6 (λ t=>WY (Ty.w t)) (vF i x),O⟩
 |lC i=>exact λ x=>⟨G6 (λ t=>CA.Y0 (qA (FD (Ty.hd t)))) (vF i x),O⟩
 |_=>exact λ _=>⟨O,O⟩
def V7(t:Ty):CA:=WY TF
theorem n30{P:C0->Prop}(k:C0)(h0:P sX)(h1:P sU)(h2:P tX)(h3:P tU)(h4:P uU):P (FD k):=
 @C0.W9 (λ k=>P (FD k)) k h0 λ k=>@C0.W9 (λ k=>P (FD (k+1))) k h1 λ k=>@C0.W9 (λ k=>P (FD (k+2))) k h2 λ k=>@C0.W9 (λ k=>P (FD (k+3))) k h3 λ _=>h4
theorem Ec(k:C0):tG (FD k):=n30 (P:=tG) k e30 f30 g30 i30 j30
def Ys:Ty->P0 CA
 |.u8=>[.Y0 (qA ng)]|.uE=>[]|.X=>[.Y0 (qA nX)]
 |.W8 t=>[V7 t]
 |.X8 t=>[.Y0 (qA nS),.HD [],.HD [V7 t]]
theorem sI(t:Ty):V7 t=.HD (.Y0 (qA (FD k_))::Ys t):=by cases t using OG<;>rfl
theorem lM{a b:C1}:u6 (.Y0 a) (.Y0 b)=(a==b):=by simp[u6]
theorem WQ{a b:P0 CA}:u6 (.HD a) (.HD b)=VC a b:=by simp[u6]
theorem vH{x y:CA}{a b:P0 CA}:VC (x::a) (y::b)=(u6 x y&&VC a b):=by simp[VC]
theorem Fc:VC [] []=I0:=by simp[VC]
theorem o30:∀i,i<5->∀j,j<5->(Y1 (FD i) (FD j)=Y1 i j):=by
 have:∀i j:gH 5,Y1 (FD i.1) (FD j.1)=Y1 i.1 j.1:=by decide +E7
 exact λ i hi j hj=>J2 ⟨i,hi⟩ ⟨j,hj⟩
theorem Vi{s t:Ty}:(qA (FD Vn)==qA (FD k_))=Y1 Vn k_:=by
 rw[Dc (Ec _) (Ec _),o30 _ (qS s) _ (qS t)]
theorem Ic{s t:Ty}(h:Y1 Vn k_=R0):R0=u6 (V7 s) (V7 t):=by
 rw[sI,sI t,WQ,vH,lM,Vi,h];rfl
theorem p30{b:I1}{s t:Ty}(h:b=u6 (V7 s) (V7 t)):b=u6 (V7 (.W8 s)) (V7 (.W8 t)):=by
 rw[sI,sI (.W8 t),WQ,vH,lM,Vi];show b=(I0&&VC [V7 s] [V7 t]);rw[vH,Fc,<-h,xv,vk]
theorem q30{b:I1}{s t:Ty}(h:b=u6 (V7 s) (V7 t)):b=u6 (V7 (.X8 s)) (V7 (.X8 t)):=by
 rw[sI,sI (.X8 t),WQ,vH,lM,Vi];show b=(I0&&VC [.Y0 (qA nS),.HD [],.HD [V7 s]] [.Y0 (qA nS),.HD [],.HD [V7 t]]);rw[vH,vH,vH,Fc,WQ,WQ,vH,Fc,<-h,lM,GW,xv,vk,vk,xv,xv]
theorem Zs{s:Ty}(h:VC (Ys s) (Ys s)=I0):I0=u6 (V7 s) (V7 s):=by
 rw[sI,WQ,vH,lM,GW,h];rfl
theorem r30{a:C1}:VC [.Y0 a] [.Y0 a]=I0:=by
 rw[vH,Fc,lM,GW];rfl
theorem s30(t:Ty):I0=u6 (V7 t) (V7 t):=
 @Ty.GR (λ t=>I0=u6 (V7 t) (V7 t)) (Zs r30) (Zs Fc) (Zs r30) (λ _=>p30) (λ _=>q30) t
theorem qs{s t:Ty}(h:s≠t):R0=u6 (V7 s) (V7 t):=by
 induction s generalizing t with
 |u8=>cases t using OG with
  |u8=>exact T3 O h
  |_=>exact Ic O
 |uE=>cases t using OG with
  |uE=>exact T3 O h
  |_=>exact Ic O
 |X=>cases t using OG with
  |X=>exact T3 O h
  |_=>exact Ic O
 |W8 s ih=>cases t using OG with
  |W8 t=>exact p30 (ih λ e=>h (G6 pA0 e))
  |_=>exact Ic O
 |X8 s ih=>cases t using OG with
  |X8 t=>exact q30 (ih λ e=>h (G6 qA0 e))
  |_=>exact Ic O
mutual
theorem Wi:∀a b:PyData,PyData.eqv a b=PyData.eqv b a
 |.tuple xs,.tuple ys=>by rw[PyData.eqv,PyData.eqv];exact Bt xs ys
 |.list xs,.list ys=>by rw[PyData.eqv,PyData.eqv];exact Bt xs ys
 |.bool a,.bool b=>by simp[PyData.eqv,Bool.beq_comm]
 |.int a,.int b=>by simp only[PyData.eqv];exact BEq.comm
 |.str a,.str b=>by simp only[PyData.eqv];exact BEq.comm
 |.bool a,.int b=>by simp only[PyData.eqv];exact BEq.comm
 |.int a,.bool b=>by simp only[PyData.eqv];exact BEq.comm
 |.none,b=>by cases b<;>simp[PyData.eqv]
 |.dict _,b=>by cases b<;>simp[PyData.eqv]
 |.bool _,.none|.bool _,.str _|.bool _,.list _|.bool _,.tuple _|.bool _,.dict _=>by simp[PyData.eqv]
 |.int _,.none|.int _,.str _|.int _,.list _|.int _,.tuple _|.int _,.dict _=>by simp[PyData.eqv]
 |.str _,.none|.str _,.bool _|.str _,.int _|.str _,.list _|.str _,.tuple _|.str _,.dict _=>by simp[PyData.eqv]
 |.list _,.none|.list _,.bool _|.list _,.int _|.list _,.str _|.list _,.tuple _|.list _,.dict _=>by simp[PyData.eqv]
 |.tuple _,.none|.tuple _,.bool _|.tuple _,.int _|.tuple _,.str _|.tuple _,.list _|.tuple _,.dict _=>by simp[PyData.eqv]
theorem Bt:∀xs ys:List PyData,PyData.eqvAll xs ys=PyData.eqvAll ys xs
 |[],[]=>rfl
 |x::xs,y::ys=>by rw[vH,vH,Wi x y,Bt xs ys]
 |[],_::_=>by simp[PyData.eqvAll]
 |_::_,[]=>by simp[PyData.eqvAll]
end
def sI0(a b:PV):(C0->Ty)->K1->I1->Prop:=λ τ _ t=>t=u6 (DG τ a) (DG τ b)
def Xi(a b:PV):(C0->Ty)->K1->I1->Prop:=λ τ _ t=>t=VC (K9 τ a) (K9 τ b)
def XY(ih:PV->PV->M I1):Prop:=∀a b τ σ,Vd D6 a->Vd D6 b->Gm (sI0 a b) (ih a b) τ σ
theorem tI0{h:C0}:match Mn h with|E0 k=>k<5/\h=FD k|H0=>∀k,h≠FD k:=by
 unfold Mn;cases h3:Y1 h tU with
 |I0=>exact⟨by decide,L6 h3⟩
 |R0=>
  cases h4:Y1 h uU with
  |I0=>exact⟨by decide,L6 h4⟩
  |R0=>
   cases h0:Y1 h sX with
   |I0=>exact⟨by decide,L6 h0⟩
   |R0=>
    cases h2:Y1 h tX with
    |I0=>exact⟨by decide,L6 h2⟩
    |R0=>
     cases h1:Y1 h sU with
     |I0=>exact⟨by decide,L6 h1⟩
     |R0=>
      intro k;exact n30 (P:=λ x=>h≠x) k (tA h0) (tA h1) (tA h2) (tA h3) (tA h4)
theorem Ct{τ:C0->Ty}{σ:K1}{i h:C0}(hi:i<D6):Gm (λ _ _ t=>t=Y1 (FD (τ i).hd) h) (Oa i h) τ σ:=by
 intro ok P X M0;symm;have hx:=@tI0 h;unfold Oa at M0;cases e:Mn h with
 |H0=>
  rw[e]at hx M0;ext;exact⟨τ,σ,R0,.L5 ..,ok,(rS λ q=>hx _ SK).Y3,M0⟩
 |E0 k=>
  rw[e]at hx M0;have d:=pJ ok hi;obtain⟨R3,Z5,t,ts,f8,r,p⟩:=Ws d.1 hx.1 ok P X M0;ext;refine⟨R3,Z5,t,ts,f8,?_,p⟩;rw[r,d.2,hx.2,o30 _ (qS _) _ hx.1]
theorem Dt{τ:C0->Ty}{σ:K1}(ok:iA τ σ){i:C0}(hi:i<D6){c:PV}(h:nN (V8 i)=E0 c):Vd D6 c/\V7 (τ i)=.HD (K9 τ c):=by
 have S9:=cN i hi;cases hx:V8 i with
 |OC=>rw[hx]at h;contradiction
 |al=>rw[hx]at h;contradiction
 |eA k=>
  rw[hx]at h S9;obtain O:=H3 h;obtain⟨h1,h2⟩:=S9;have:k=0\/k=1\/k=2:=by exact ω9 _ ‹_›
  rcases J2 with O|O|O
  ·have:τ i=.u8:=bV (by exact Aa ‹_› O) h2;rw[J2];exact⟨⟨e30,qI0,zD⟩,O⟩
  ·have:τ i=.uE:=bV (by exact Aa ‹_› O) h2;rw[J2];exact⟨⟨f30,zD⟩,O⟩
  ·have:τ i=.X:=bV (by exact Aa ‹_› O) h2;rw[J2];exact⟨⟨g30,rI0,zD⟩,O⟩
 |W8 j=>
  rw[hx]at h S9;obtain O:=H3 h;rw[S9.2];exact⟨⟨i30,S9.1,zD⟩,O⟩
 |X8 j=>
  rw[hx]at h S9;obtain O:=H3 h;rw[S9.2];exact⟨⟨j30,code_S,zD,⟨S9.1,zD⟩,zD⟩,O⟩
section
variable{ih:PV->PV->M Bool}(H:XY ih)
include H
theorem Et:∀(l b:PV)(τ:C0->Ty)(σ:K1),Vd D6 l->Vd D6 b->Gm (Xi l b) (pg ih l b) τ σ:=by
 intro l;induction l with
 |A0 a r _ PA=>
  intro b τ σ hl hb;cases b using P3 with
  |B0=>exact o8 (show R0=VC (DG τ a::K9 τ r) [] by simp[VC])
  |A0 b s=>
   refine Qf (H a b τ σ hl.1 hb.1) λ R3 Z5 t ts f8 e=>?_;have d1:=fF ts hl;have d2:=fF ts hb;cases t using n7 with
   |R0=>exact o8 (show R0=VC (DG R3 a::K9 R3 r) (DG R3 b::K9 R3 s) by rw[vH,<-e];rfl)
   |I0=>
    refine(PA s R3 Z5 (hl.2.D5 YK) (hb.2.D5 YK)).D5 λ kM Af t XQ t30 xN=>?_;show t=VC (DG kM a::K9 kM r) (DG kM b::K9 kM s);rw[vH,(fF XQ (hl.1.D5 YK)).1,(fF XQ (hb.1.D5 YK)).1,<-e,xN];rfl
  |_=>exact WA
 |_=>
  intro b τ σ hl hb;first
   |exact WA
   |(cases b using P3 with
    |B0=>exact o8 (show I0=VC [] [] by simp[VC])
    |A0 b s=>exact o8 (show R0=VC [] (DG τ b::K9 τ s) by simp[VC])
    |_=>exact WA)
   |exact hl.HB
   |(cases b with
    |B0=>exact(o8 (R:=Xi _ _) (show I0=VC [] [] by simp[VC]))
    |A0 b s=>exact(o8 (R:=Xi _ _) (show R0=VC [] (DG τ b::K9 τ s) by simp[VC]))
    |_=>exact WA)
end
end
end
section
section
section
variable{ih:PV->PV->M Bool}(H:XY ih)
include H
theorem uI0{τ:C0->Ty}{σ:K1}{i:C0}{l:PV}(hi:i<D6)(hl:Vd D6 l):Gm (λ R3 _ t=>t=u6 (V7 (R3 i)) (.HD (K9 R3 l))) (Ip ih i l) τ σ:=by
 intro ok P X M0;have d:=pJ ok hi;unfold Ip at M0;cases e:nN (V8 (G7 i))with
 |H0=>rw[e]at M0;exact B4
 |E0 c=>
  rw[e]at M0;have sh:=Dt ok d.1 e;obtain⟨R3,Z5,t,ts,f8,r,p⟩:=Et H c l τ σ sh.1 hl ok P X M0;refine⟨R3,Z5,t,ts,f8,?_,p⟩;rw[vF i hi,<-d.2,sh.2,WQ,<-(fF ts sh.1).2];exact r
theorem Yi{τ:C0->Ty}{σ:K1}{i:C0}{l:PV}(hi:i<D6)(hl:Vd D6 l):Gm (λ R3 _ t=>t=u6 (V7 (R3 i)) (.HD (K9 R3 l))) (vU ih i l) τ σ:=by
 cases l using P3 with
 |B0=>
  refine o8 ?_;show R0=u6 (V7 (τ i)) (.HD []);rw[sI];simp[u6,VC]
 |A0 a r=>
  cases a using P3 with
  |Y0 h=>
   refine Qf (Ct hi) λ R3 Z5 t ts f8 e=>?_;cases t using n7 with
   |I0=>exact uI0 H (U8 hi YK) (hl.D5 YK)
   |R0=>
    refine o8 ?_;show R0=u6 (V7 (R3 i)) (.HD (.Y0 (qA h)::K9 R3 r));rw[sI,WQ,vH,lM,Dc (Ec _) hl.1,vF i hi,<-e];rfl
  |_=>exact WA
 |_=>exact WA
theorem vI0{τ:C0->Ty}{σ:K1}{i j m d m' d':C0}(hi:i<D6)(hj:j<D6)(a1:m<32)(a2:mC m (τ i).hd=I0)(a3:(τ i).dI<=d)(b1:m'<32)(b2:mC m' (τ j).hd=I0)(b3:(τ j).dI<=d'):
  Gm (λ R3 _ t=>t=u6 (V7 (R3 i)) (V7 (R3 j))) (Jp i j m d m' d') τ σ:=by
 intro ok P X M0;unfold Jp at M0;cases e:Y1 (OP m m') 0 with
 |I0=>
  rw[e]at M0;refine⟨τ,σ,R0,.L5 ..,ok,qs (s:=τ i) (t:=τ j) λ q=>?_,M0⟩;have:=(a30 m a1 m' b1 (τ i).hd (qS _) a2 (by rw[q];exact b2)).2.1;rw[e]at J2;contradiction
 |R0=>
  rw[e]at M0;by_cases q:τ i=τ j
  ·have M0:=M0 0 (by decide);have bl:=a30 m a1 m' b1 (τ i).hd (qS _) a2 (by rw[q];exact b2);have Us:iA τ (lN j (.OC (OP m m') (bif O9 d d' then d else d'))):=ok.XJ ⟨bl.1,by rw[<-q];exact bl.2.2,by
    cases O9 d d' using n7 with
    |I0=>rw[<-q];exact a3
    |R0=>exact b3⟩
   have ok2:iA τ ((lN j (.OC (OP m m') (bif O9 d d' then d else d'))).XJ i (.al j)):=Us.XJ (i:=i) (x:=.al j) ⟨hj,q⟩;exact⟨τ,_,I0,(TS.XJ ..).V2 (.XJ ..),ok2,by dsimp only;rw[q];exact s30 _,M0⟩
  ·have M0:=M0 1 (by decide);exact⟨τ,_,R0,.rX ..,ok.rX hi hj q,qs (s:=τ i) (t:=τ j) q,M0⟩
theorem wI0{τ:C0->Ty}{σ:K1}{i j:C0}(hi:i<D6)(hj:j<D6):Gm (λ R3 _ t=>t=u6 (V7 (R3 i)) (V7 (R3 j))) (A10 ih i j (V8 i) (V8 j)) τ σ:=by
 intro ok;have i1:=cN i hi;have i2:=cN j hj;have T7:∀x,nN (V8 i)=E0 x->Gm (λ R3 _ t=>t=u6 (V7 (R3 i)) (V7 (R3 j))) (vU ih j x) τ σ:=λ x hx=>by
  have sh:=Dt ok hi hx;refine(Yi H hj sh.1).D5 λ R3 Z5 t ts f8 e=>?_;rw[e,Wi,(fF ts sh.1).2,<-sh.2,vF i hi]
 have Ft:∀x,nN (V8 j)=E0 x->Gm (λ R3 _ t=>t=u6 (V7 (R3 i)) (V7 (R3 j))) (vU ih i x) τ σ:=λ x hx=>by
  have sh:=Dt ok hj hx;refine(Yi H hi sh.1).D5 λ R3 Z5 t ts f8 e=>?_;rw[e,(fF ts sh.1).2,<-sh.2,vF j hj]
 revert ok;cases hx:V8 i with
 |OC m d=>
  rw[hx]at i1;cases hy:V8 j with
  |OC m' d'=>rw[hy]at i2;exact vI0 H hi hj i1.1 i1.2.1 i1.2.2 i2.1 i2.2.1 i2.2.2
  |eA k=>exact Ft _ (by rw[hy];rfl)
  |W8 k=>exact Ft _ (by rw[hy];rfl)
  |X8 k=>exact Ft _ (by rw[hy];rfl)
  |al k=>exact WA
 |eA k=>exact T7 _ (by rw[hx];rfl)
 |W8 k=>exact T7 _ (by rw[hx];rfl)
 |X8 k=>exact T7 _ (by rw[hx];rfl)
 |al k=>exact WA
theorem xI0{τ:C0->Ty}{σ:K1}{i j:C0}(hi:i<D6)(hj:j<D6):Gm (λ R3 _ t=>t=u6 (V7 (R3 i)) (V7 (R3 j))) (Kp ih i j) τ σ:=by
 intro ok P X M0;have d1:=pJ ok hi;have d2:=pJ ok hj;unfold Kp at M0;cases e:Y1 (G7 i) (G7 j)with
 |I0=>
  rw[e]at M0;refine⟨τ,σ,I0,.L5 ..,ok,?_,M0⟩;rw[<-d1.2,<-d2.2,L6 e];exact s30 _
 |R0=>
  rw[e,JH]at M0;cases e2:JA0 (G7 i) (G7 j)with
  |I0=>
   rw[e2]at M0;have:=oI0 ok e2;exact⟨τ,_,R0,.rX ..,ok.rX d1.1 d2.1 J2,qs (s:=τ i) (t:=τ j) (by rw[<-d1.2,<-d2.2];exact J2),M0⟩
  |R0=>
   rw[e2]at M0;obtain⟨R3,Z5,t,ts,f8,r,p⟩:=wI0 H d1.1 d2.1 ok P X M0;refine⟨R3,Z5,t,ts,f8,?_,p⟩;rw[r,vF i hi,vF j hj,vF _ d1.1,vF _ d2.1,d1.2,d2.2]
end
theorem yI0{τ:C0->Ty}{σ:K1}{i j:C0}(hi:i<D6)(hj:j<D6)(l:P0 C0)(hl:∀k∈l,k<5):Gm (λ R3 _ t=>t=Y1 (R3 i).hd (R3 j).hd) (y00 i j l) τ σ:=by
 induction l generalizing τ σ with
 |B0=>exact WA
 |A0 k l ihl=>
  have hk:=hl k (TE ..);refine Qf (R:=λ _ _ t=>t=Y1 (τ i).hd k) (Q_ (m':=Na i k (V8 i)) O (Ws hi hk)) λ R3 Z5 t ts f8 e=>?_;have EM:=U8 hi YK;have hj':=U8 hj YK;cases t using n7 with
  |R0=>exact ihl EM hj' λ q hq=>hl q (yB _ hq)
  |I0=>
   have:(τ i).hd=k:=L6 Ee;refine(Q_ (m':=Na j k (Z5.ti j)) O (Ws hj' hk)).D5 λ kM Af t XQ t30 xN=>?_;rw[xN,XQ.τ i EM,XQ.τ j hj',vF i hi,J2];cases q:Y1 (R3 j).hd k with
   |I0=>rw[L6 q,fZ]
   |R0=>exact(rS λ z=>tA q z.Y3).Y3
theorem zI0{τ:C0->Ty}{σ:K1}{i j:C0}(hi:i<D6)(hj:j<D6):Gm (λ R3 _ t=>t=Y1 (R3 i).hd (R3 j).hd) (Hp i j) τ σ:=by
 intro ok P X M0;have d1:=pJ ok hi;have d2:=pJ ok hj;unfold Hp at M0;cases e:Y1 (G7 i) (G7 j)with
 |I0=>
  rw[e]at M0;refine⟨τ,σ,I0,.L5 ..,ok,?_,M0⟩;rw[<-d1.2,<-d2.2,L6 e,fZ]
 |R0=>
  rw[e]at M0;obtain⟨R3,Z5,t,ts,f8,r,p⟩:=yI0 d1.1 d2.1 [3,4,0,2,1] (by decide) ok P X M0;refine⟨R3,Z5,t,ts,f8,?_,p⟩;rw[r,vF i hi,vF j hj,vF _ d1.1,vF _ d2.1,d1.2,d2.2]
theorem AJ0{t:Ty}{d:CA}(h:∀l,d≠.HD l):R0=u6 (V7 t) d:=by
 rw[sI];cases d with
 |HD l=>exact T3 O (h l)
 |_=>simp[u6]
set_option tactic.hygienic true in
theorem BJ0(i j:A2):Pa i j=(i==j):=by
 cases i using SL<;>cases j using SL
 ·rename_i a b;show Y1 a b=_;cases e:Y1 a b with
  |I0=>rw[L6 e];simp
  |R0=>have:=tA e;simpa using λ q=>J2 (by exact_mod_cast q)
 ·show R0=_;simp
 ·show R0=_;simp
 ·rename_i a b;show Y1 a b=_;cases e:Y1 a b with
  |I0=>rw[L6 e];simp
  |R0=>have:=tA e;simpa using J2
theorem CJ0{ih:PV->PV->M I1}(H:XY ih):XY (B10 ih):=by
 intro a b τ σ ha hb;cases a using P3 with
 |H0=>cases b using P3 with
  |ty j=>exact o8 (show R0=u6 .H0 (V7 (τ j)) by rw[sI];simp[u6])
  |_=>first|exact WA|exact o8 (show _=u6 _ _ by trivial)
 |N3 x=>cases b using P3 with
  |N3 y=>exact o8 (show _=u6 (.N3 x) (.N3 y) by cases x using n7<;>cases y using n7<;>simp[u6])
  |ty j=>exact o8 (show R0=u6 (.N3 x) (V7 (τ j)) by rw[sI];simp[u6])
  |_=>first|exact WA|exact o8 (show _=u6 _ _ by trivial)
 |j0 x=>cases b using P3 with
  |j0 y=>exact o8 (show Pa x y=u6 (.j0 x) (.j0 y) by rw[BJ0];simp[u6])
  |ty j=>exact o8 (show R0=u6 (.j0 x) (V7 (τ j)) by rw[sI];simp[u6])
  |_=>first|exact WA|exact o8 (show _=u6 _ _ by trivial)
 |Y0 x=>cases b using P3 with
  |Y0 y=>exact o8 (show Y1 x y=u6 (.Y0 (qA x)) (.Y0 (qA y)) by rw[lM,Dc ha hb])
  |lC i=>
   refine(Ct hb).D5 λ R3 Z5 t ts f8 e=>?_;show t=u6 (.Y0 (qA x)) (.Y0 (qA (FD (R3 i).hd)));rw[Wi,lM,Dc (Ec _) ha,vF i hb];exact e
  |ty j=>exact o8 (show R0=u6 (.Y0 (qA x)) (V7 (τ j)) by rw[sI];simp[u6])
  |_=>first|exact WA|exact o8 (show _=u6 _ _ by trivial)
 |Q0 l=>cases b using P3 with
  |Q0 m=>exact(Et H l m τ σ ha hb).D5 λ R3 Z5 t ts f8 e=>show t=u6 (.HD (K9 R3 l)) (.HD (K9 R3 m)) by rw[WQ];exact e
  |ty j=>exact(Yi (l:=l) H hb ha).D5 λ R3 Z5 t ts f8 e=>show t=u6 (.HD (K9 R3 l)) (V7 (R3 j)) by rw[Wi];exact e
  |_=>first|exact WA|exact o8 (show _=u6 _ _ by trivial)
 |ty i=>cases b using P3 with
  |Q0 m=>exact Yi (l:=m) H ha hb
  |ty j=>exact xI0 H ha hb
  |_=>first|exact WA|exact o8 (show R0=u6 (V7 (τ i)) _ from AJ0 λ _=>by simp[DG,dO])
 |lC i=>cases b using P3 with
  |Y0 y=>
   refine(Ct ha).D5 λ R3 Z5 t ts f8 e=>?_;show t=u6 (.Y0 (qA (FD (R3 i).hd))) (.Y0 (qA y));rw[lM,Dc (Ec _) hb,vF i ha];exact e
  |lC j=>
   refine(zI0 ha hb).D5 λ R3 Z5 t ts f8 e=>?_;show t=u6 (.Y0 (qA (FD (R3 i).hd))) (.Y0 (qA (FD (R3 j).hd)));rw[lM,Vi];exact e
  |_=>exact WA
 |_=>exact WA
theorem DJ0(n:C0):XY (eqN n):=by
 induction n with
 |i9=>exact λ a b τ σ _ _=>WA
 |c9 n ih=>exact CJ0 ih
theorem Ht:XY ij:=DJ0 14
theorem EJ0(l m:PV)(τ:C0->Ty)(σ:K1)(hl:Vd D6 l)(hm:Vd D6 m):Gm (Xi l m) (eqL l m) τ σ:=Et Ht l m τ σ hl hm
theorem u30(a:PV):∀(l:PV)(τ:C0->Ty)(σ:K1),Vd D6 a->Vd D6 l->Gm (λ R3 _ t=>t=(K9 R3 l).K4 (λ y=>u6 y (DG R3 a))) (Mp a l) τ σ:=by
 intro l;induction l with
 |A0 b r _ PA=>
  intro τ σ ha hl;refine Qf (Ht b a τ σ hl.1 ha) λ R3 Z5 t ts f8 e=>?_;cases t using n7 with
  |I0=>exact o8 (show I0=(DG R3 b::K9 R3 r).K4 _ by rw[NV0,<-e];rfl)
  |R0=>
   refine(PA R3 Z5 (CB0 YK) (hl.2.D5 YK)).D5 λ kM Af t XQ t30 xN=>?_;show t=(DG kM b::K9 kM r).K4 _;rw[NV0,(fF XQ (hl.1.D5 YK)).1,(fF XQ (CB0 YK)).1,<-e,xN,(fF XQ (CB0 YK)).1];rfl
 |B0=>exact λ τ σ _ _=>o8 O
 |kv=>exact λ τ σ _ _=>WA
 |Q0 l ih=>exact λ τ σ _ _=>o8 O
 |_=>exact λ τ σ _ _=>o8 O
end
end
section
section
variable{B:Bs}
theorem FJ0{s:C1}(h:vc s≠0):CA.strOk s=I0:=by
 unfold CA.strOk;rw[<-L4.all_toList];have:∀l:P0 C0,Z7 l≠0->l.ZA (· <0x110000)=I0:=by
  intro l;induction l with
  |B0=>exact λ _=>O
  |A0 c l ih=>
   intro hl;have ht:=UY (c:=c) (n:=Z7 l) hl;have hc:c<1114112:=by
    change pC c (Z7 l)≠0 at hl;unfold pC at hl;rw[rS ht,JH]at hl;cases hb:X6 c 1114112 with
    |R0=>rw[hb]at hl;exact T3 O hl
    |I0=>exact uk hb
   rw[Hc,ih ht,vk];exact LW hc
 exact J2 _ h
theorem GJ0{a b:C0}(h:vX a b≠0):a≠0/\b≠0/\a<=vX a b/\b<=vX a b:=by
 unfold vX at h ⊢;cases ha:Y1 a 0 with
 |I0=>rw[ha]at h;exact T3 O h
 |R0=>
  cases hb:Y1 b 0 with
  |I0=>rw[ha,hb]at h;exact T3 O h
  |R0=>
   refine⟨tA ha,tA hb,?_⟩;cases hc:O9 a b with
   |I0=>exact⟨i6 hc,A8 _⟩
   |R0=>
    have:¬a<=b:=λ q=>by rw[U80 q]at hc;contradiction
    rw[JH];exact ω60 ‹_›
theorem HJ0{a:C0}(h:Qa a≠0):a≠0/\Qa a=a+1:=by
 unfold Qa at h ⊢;cases ha:Y1 a 0 with
 |I0=>rw[ha]at h;exact T3 O h
 |R0=>exact⟨tA ha,O⟩
structure RD(h:O1)(v:K0)(d:CA)(k:C0):Prop where
 r:∃as,Reads h v d as
 c:d.canLay0=I0
 d:Fo<=k
structure yK(h:O1)(v:P0 K0)(d:P0 CA)(k:C0):Prop where
 r:∃as,ReadsAll h v d as
 c:CA.rU0 d=I0
 d:bb d<=k
theorem RD.D5{h v d k k'}(x:RD h v d k)(hk:k<=k'):RD h v d k':=⟨x.r,So,W6 x.d hk⟩
theorem yK.D5{h v d k k'}(x:yK h v d k)(hk:k<=k'):yK h v d k':=⟨x.r,So,W6 x.d hk⟩
theorem bz{h k}:yK h [] [] k:=⟨⟨_,.B0⟩,by trivial,by simp[bb]⟩
theorem yK.A0{h v d vs ds k}(x:RD h v d k)(y:yK h vs ds k):yK h (v::vs) (d::ds) k:=by
 obtain⟨as,r⟩:=x.r;obtain⟨bs,s⟩:=y.r;exact⟨⟨_,.A0 r s⟩,by simp[CA.rU0,So,To],by simp only[bb];exact C0.gV0 ⟨x.d,y.d⟩⟩
theorem rA0{h:O1}{a vs n ds k}(e:B3 a=E0 (E8 vs n))(y:yK h vs ds k):RD h (.J0 a) (.HD ds) (k+1):=by
 obtain⟨bs,s⟩:=y.r;exact⟨⟨_,.HD e O O (by simpa using s)⟩,by simpa[x90]using To,by simp only[Id];exact yJ y.d⟩
theorem RD.Y0{h:O1}{s:C1}{t n k}(h0:n≠0)(e:vc s=n):RD h (.Y0 s t) (.Y0 (qA n)) k:=by
 subst e;rw[Xs h0];exact⟨⟨_,.Y0 s t⟩,by simpa[x90]using FJ0 h0,by simp[Id]⟩
theorem Jt{T W K:C0->O1->K0->Prop}{n:C0}{ρ:C0->H1}{av:P0 H1}{h:O1}{dt dw dk:C0->CA}{m:C0}
  (hT:∀i v,T i h v->i<m/\RD h v (dt i) 7)(hW:∀i v,W i h v->i<m/\RD h v (dw i) 16)(hK:∀i v,K i h v->i<m/\RD h v (dk i) 1)(p:PV)(hd:OD p≠0):
  (∀v,(pP T W K n ρ av h p).1 v->Vd m p/\RD h v (dO dt dw dk p).1 (OD p))/\(∀l,(pP T W K n ρ av h p).2 l->Vd m p/\yK h l (dO dt dw dk p).2 (OD p)):=by
 induction p with
 |H0=>exact⟨λ v e=>by cases e;exact⟨zD,⟨⟨_,.H0⟩,by trivial,by simp[dO,Id]⟩⟩,λ _ x=>bD⟩
 |N3 b=>exact⟨λ v e=>by cases e;exact⟨zD,⟨⟨_,.N3 b⟩,by trivial,by simp[dO,Id]⟩⟩,λ _ x=>bD⟩
 |j0 i=>exact⟨λ v ⟨t,e⟩=>by cases e;exact⟨zD,⟨⟨_,.j0 i t⟩,by trivial,by simp[dO,Id]⟩⟩,λ _ x=>bD⟩
 |Y0 k=>exact⟨λ v ⟨h0,s,t,e,q⟩=>by cases e;exact⟨⟨h0,s,q⟩,RD.Y0 h0 q⟩,λ _ x=>bD⟩
 |AG=>exact T3 O hd
 |B0=>exact⟨λ _ x=>bD,λ l e=>by cases e;exact⟨zD,bz⟩⟩
 |A0 a r IG PA=>
  have q:vX (OD a) (OD r)≠0:=hd;obtain⟨q1,q2,q3,q4⟩:=GJ0 q;exact⟨λ _ x=>bD,λ l ⟨v,w,e,x,y⟩=>by
   subst e;have x':=(IG q1).1 v x;have y':=(PA q2).2 w y;exact⟨⟨x'.1,y'.1⟩,yK.A0 (x'.2.D5 q3) (y'.2.D5 q4)⟩⟩
 |kv=>exact T3 O hd
 |Q0 l ih=>
  have q:=HJ0 (a:=OD l) hd;exact⟨λ v ⟨a,vs,k,e,z,x,y⟩=>by
   subst e;have y':=(ih q.1).2 vs y;refine⟨y'.1,?_⟩;show RD h (.J0 a) (.HD (dO dt dw dk l).2) (Qa (OD l));rw[q.2];exact rA0 x y'.2,λ _ x=>bD⟩
 |J0=>exact T3 O hd
 |Z0=>exact T3 O hd
 |ty i=>exact⟨λ v x=>⟨(hT i v x).1,(hT i v x).2⟩,λ _ x=>bD⟩
 |wr i=>exact⟨λ v x=>⟨(hW i v x).1,(hW i v x).2⟩,λ _ x=>bD⟩
 |lC i=>exact⟨λ v x=>⟨(hK i v x).1,(hK i v x).2⟩,λ _ x=>bD⟩
theorem YY{av:P0 H1}{h:O1}{p:PV}{v:K0}(hd:OD p≠0)(x:mJ av p h v):RD h v (WY p) (OD p):=
 ((Jt (m:=0) (dt:=VY) (dw:=VY) (dk:=VY) (λ _ _ q=>P6) (λ _ _ q=>P6) (λ _ _ q=>P6) p hd).1 v x).2
def W4(l:P0 Ty):P0 Ty:=[.u8,.uE,.X]++qP .W8++qP .X8
def w30:P0 Ty:=W4 (W4 (W4 []))
theorem Zi{t:Ty}{l:P0 Ty}(h:uR=0\/∃s,s∈l/\(t=.W8 s\/t=.X8 s)):t∈W4 l:=by
 unfold W4;rcases h with h|⟨s,hs,O|O⟩
 ·cases t using OG<;>simp_all [vm]
 ·simp[hs]
 ·simp[hs]
theorem ai{t:Ty}(h:uR<=2):t∈w30:=by
 have m0:∀t:Ty,uR<=0->t∈W4 []:=λ t h=>Zi (.S2 (by exact C0.eq_zero_of_le_zero ‹_›));have J6:∀{k l},(∀t:Ty,uR<=k->t∈l)->∀t:Ty,uR<=k+1->t∈W4 l:=λ{k l} ih t h=>by
  cases t using OG with
  |W8 s=>exact Zi (.L2 ⟨s,ih s (by simp[vm]at h;omega),.S2 O⟩)
  |X8 s=>exact Zi (.L2 ⟨s,ih s (by simp[vm]at h;omega),.L2 O⟩)
  |_=>exact Zi (.S2 O)
 exact J6 (J6 m0) t h
theorem ji:∀t∈w30,(OD TF≠0/\OD TF<=7)/\(OD pU≠0/\OD pU<=16):=by decide +E7
theorem ki{G:Gh}{h:O1}(ok:iA I5 R1){p:PV}{v:K0}(hd:OD p≠0)(x:F3 G h p v):Vd PB p/\RD h v (DG I5 p) (OD p):=
 (Jt (λ i v q=>⟨q.1,have d:=(ji _ (ai (CX i q.1))).1;(YY d.1 q.2).D5 d.2⟩) (λ i v q=>⟨q.1,have d:=(ji _ (ai (CX i q.1))).2;(YY d.1 q.2).D5 d.2⟩)
  (λ i v q=>⟨q.1,YY (p:=.Y0 _) kT0 q.2⟩) p hd).1 v x
theorem qi{G:Gh}{h:O1}(ok:iA I5 R1){p:PV}{v:P0 K0}(hd:OD p≠0)(x:A4 G h p v):Vd PB p/\yK h v (K9 I5 p) (OD p):=
 (Jt (λ i v q=>⟨q.1,have d:=(ji _ (ai (CX i q.1))).1;(YY d.1 q.2).D5 d.2⟩) (λ i v q=>⟨q.1,have d:=(ji _ (ai (CX i q.1))).2;(YY d.1 q.2).D5 d.2⟩)
  (λ i v q=>⟨q.1,YY (p:=.Y0 _) kT0 q.2⟩) p hd).2 v x
theorem tS{p:PV}(h:RO p=I0):OD p≠0/\OD p<=60:=by
 unfold RO at h;cases e:Y1 (OD p) 0 with
 |I0=>rw[e]at h;contradiction
 |R0=>rw[e]at h;exact⟨tA e,i6 h⟩
def Gh.upT(G:Gh)(σ:K1)(τ:C0->Ty):Gh:=⟨σ,Y2,τ,E5⟩
theorem J1.upT{A:B6}{G:Gh}{s:D1}(g:J1 B A G s){σ:K1}{τ:C0->Ty}(ts:TS R1 I5 σ τ)(ok:iA τ σ):J1 B A (QX σ τ) s/\Z2 B N2 G s (QX σ τ) s:=by
 have le:wN (QX σ τ):=⟨FP ts.n.Y3,λ _ _=>O,O,YK,vF⟩;have n8:∀i,(QX σ τ).σ.n8 i=O3 i:=λ i=>by show σ.WX i=_;rw[ts.t];rfl
 have n:(QX σ τ).σ.n=I3:=ts.n;have s9:∀b,u9 (QX σ τ) b->u9 G b:=λ b zz=>fU zz λ i h1 h2 h3=>⟨i,by rw[<-n];exact h1,by rw[<-n8];exact h2,h3⟩;have Q0:zB E5 W0 W0:=λ _ _ _ _ e=>e;refine⟨⟨ok,⟨λ i j hi hj ni nj e=>QG i j (n▸hi) (n▸hj) (n8 i▸ni) (n8 j▸nj) e,λ i hi=>?_,λ i hi=>?_,λ i hi hn=>vC i (n▸hi) (n8 i▸hn),xD⟩,QB,gE,SJ⟩,
  ⟨W0,X4,O⟩,le,λ b x=> .S2 (s9 b x),λ b o e=>⟨o,e⟩,λ b o e _ _ _=>⟨o,e,.L5 o⟩,Q0,.L5 _⟩
 ·rw[n8];exact(GA i (n▸hi)).D5 le Q0 (.L5 _) (λ _ e=>e) λ d l _ e=>⟨l,(n8 d).V2 e⟩
 ·rw[n8];exact XL i (n▸hi)
theorem wH{F:H1->Prop}{G G':Gh}{s s':D1}(x:Z2 B N2 G s G' s'):Z2 B F G s G' s':=n00 λ _ q=>P6
section
variable{α β:Type}{F:Addr->Prop}{A:Around}{G:Gh}{s:Shared}
theorem U4.gW0{m:M α}{t:X7 β}{R:(C0->Ty)->K1->α->Prop}{RR:Gh->O1->α->β->Prop}(g:J1 B A G s)(h:Gm R m I5 R1)
  (k:∀R3 Z5 a,TS R1 I5 Z5 R3->R R3 Z5 a->∀{Q:β->D1->Prop}{E},(∀b,RR (QX Z5 R3) W0 a b->Q b s)->V0 R2 A t Q E s):U4 B RR F A m t G s:=λ P X M0=>by
 obtain⟨R3,Z5,a,ts,f8,r,p⟩:=h FE P X M0;obtain⟨g',st⟩:=g.upT ts f8;exact k R3 Z5 a ts r λ b rr=>⟨_,a,wH st,g',rr,p⟩
end
end
end
section
variable{B:Bs}{A:Around}{G:Gh}{s:Shared}{F:Addr->Prop}
noncomputable abbrev RB:Gh->O1->I1->K0->Prop:=λ _ _ b v=>v=.N3 b
def Cu(A:B6):Prop:=mL+100<cP
theorem yi{h:O1}{p:PV}{v:K0}(r:F3 G h p v)(hp:p≠.H0):v≠.H0/\MA0 v .H0=I0:=by
 have Y0:∀(x:C1)(t:O6),(Wn x t≠.H0/\MA0 (.Y0 x t) .H0=I0):=λ x t=>⟨by simp,O⟩;have J0:∀(x:H1),(w6 x≠.H0/\MA0 (.J0 x) .H0=I0):=λ x=>⟨by simp,O⟩;cases p using P3 with
 |H0=>exact T3 O hp
 |N3=>cases r;exact⟨by simp,O⟩
 |j0=>obtain⟨_,O⟩:=r;exact⟨by simp,O⟩
 |Y0=>obtain⟨_,_,_,O,_⟩:=r;exact Y0 _ _
 |AG=>obtain⟨_,_,O,_⟩:=r;exact Y0 _ _
 |Q0=>obtain⟨_,_,_,O,_⟩:=r;exact J0 _
 |J0=>obtain⟨_,O⟩:=r;exact J0 _
 |Z0=>cases r;exact J0 _
 |ty i=>
  obtain⟨_,r⟩:=r;revert r;cases I5 i<;>(intro r;obtain⟨_,_,_,O,_⟩:=r;exact J0 _)
 |wr i=>
  obtain⟨_,r⟩:=r;revert r;cases I5 i<;>(intro r;obtain⟨_,_,_,O,_⟩:=r;exact J0 _)
 |lC i=>obtain⟨_,r⟩:=r;obtain⟨_,_,_,O,_⟩:=r;exact Y0 _ _
 |B0=>exact VI
 |A0=>exact VI
 |kv=>exact VI
theorem IJ0{a:PV}{v:K0}(g:J1 B A G s)(r:F3 G W0 a v):U4 B RB F A (W1 (aE a)) (RN .Is v .H0) G s:=by
 intro P X M0;cases a using P3 with
 |H0=>cases r;exact wpAny_is_self (a:=.H0) (by rfl) (.CB (R:=RB) g O M0)
 |_=>exact wpAny_is_other (yi r (λ e=>nomatch e)).2 (yi r (λ e=>nomatch e)).1 (.CB (R:=RB) g O M0)
theorem JJ0{a:PV}{v:K0}(g:J1 B A G s)(r:F3 G W0 a v):U4 B RB F A (W1 (!(aE a))) (RN .Zm v .H0) G s:=by
 intro P X M0;cases a using P3 with
 |H0=>cases r;exact wpAny_isNot_self (a:=.H0) (by rfl) (.CB (R:=RB) g O M0)
 |_=>exact wpAny_isNot_other (yi r (λ e=>nomatch e)).2 (yi r (λ e=>nomatch e)).1 (.CB (R:=RB) g O M0)
set_option tactic.hygienic true in
theorem Nt(i j:A2):Og i j=DE (i<j):=by
 cases i using SL<;>cases j using SL
 ·rename_i a b;show X6 a b=_;cases e:X6 a b with
  |I0=>have:=uk e;exact(LW (by simpa using J2)).Y3
  |R0=>exact(tj λ q=>by rw[EH.B8 (by simpa using q)]at e;contradiction).Y3
 ·rename_i a b;exact(tj (by rw[PZ];omega)).Y3
 ·rename_i a b;exact(LW (by rw[PZ];omega)).Y3
 ·rename_i a b;show X6 b a=_;cases e:X6 b a with
  |I0=>have:=uk e;exact(LW (by exact ω85 ‹_›)).Y3
  |R0=>exact(tj λ q=>by rw[EH.B8 (by exact ω77 ‹_›)]at e;contradiction).Y3
theorem Ot{op:bG}{Uo:eE}(ho:(op=.gt/\Uo=.Gt)\/(op=.lt/\Uo=.Lt)\/(op=.ge/\Uo=.Pg)){a b:PV}{v w:K0}(g:J1 B A G s)(r:F3 G W0 a v)(r':F3 G W0 b w):
  U4 B RB F A (qg op a b) (RN Uo v w) G s:=by
 intro P X M0;cases a using P3 with
 |j0 i=>
  cases b using P3 with
  |j0 j=>
   obtain⟨t,O⟩:=r;obtain⟨u,O⟩:=r';rcases ho with⟨O,O⟩|⟨O,O⟩|⟨O,O⟩
   ·refine eM.gt_int (.CB (R:=RB) g O ?_);rw[<-Nt];exact M0
   ·refine eM.lt_int (.CB (R:=RB) g O ?_);rw[<-Nt];exact M0
   ·refine hV0 (.CB (R:=RB) g O ?_);have:DE (i≥j)=!Og i j:=by rw[Nt];by_cases q:i<j<;>simp[q]<;>exact lk ‹_›
    rw[J2];exact M0
  |_=>exact B4
 |_=>exact B4
theorem uG{h:O1}{C:PV->P0 K0->Prop}(hn:C .B0 [])(hc:∀a r v q,F3 G h a v->A4 G h r q->C r q->C (.A0 a r) (v::q)){l:PV}{vs:P0 K0}(x:A4 G h l vs):C l vs:=by
 induction l generalizing vs with
 |B0=>rw[show vs=[]from x];exact hn
 |A0 a r _ ih=>obtain⟨v,q,e,hv,hr⟩:=x;rw[e];exact hc a r v q hv hr (ih hr)
 |_=>exact bD
inductive Qt(G:Gh)(h:O1):PV->P0 K0->Prop
 |B0:Qt G h .B0 []
 |A0{a r:PV}{v:K0}{q:P0 K0}(ra:F3 G h a v)(rr:A4 G h r q):Qt G h (.A0 a r) (v::q)
theorem x30{h:O1}{l:PV}{v:K0}{q:P0 K0}(x:A4 G h l (v::q)):∃a r,l=.A0 a r/\F3 G h a v/\A4 G h r q:=by
 generalize hz:v::q=vs at x;refine uG (C:=λ l vs=>v::q=vs->∃a r,l=.A0 a r/\F3 G h a v/\A4 G h r q) (λ z=>by contradiction) (λ a r _ _ ra rr _ z=>?_) x hz;obtain⟨O,O⟩:=P0.A0.KT z;exact⟨a,r,O,ra,rr⟩
theorem y30{h:O1}{l:PV}(x:A4 G h l []):l=.B0:=by
 generalize hz:([]:P0 K0)=vs at x;exact uG (C:=λ l vs=>[]=vs->l=.B0) (λ _=>O) (λ _ _ _ _ _ _ _ z=>by contradiction) x hz
theorem Aj{h:O1}{l:PV}{vs:P0 K0}(x:A4 G h l vs):Qt G h l vs:=uG .B0 (λ _ _ _ _ ra rr _=> .A0 ra rr) x
theorem Rt{h:O1}{C:PV->P0 (C1×K0)->Prop}(hn:C .B0 [])(hc:∀k w r y u q,k≠0->vc y=k->F3 G h w u->S8 G h r q->C r q->C (.kv k w r) ((y,u)::q)){l:PV}{vs:P0 (C1×K0)}(x:S8 G h l vs):C l vs:=by
 induction l generalizing vs with
 |B0=>rw[show vs=[]from x];exact hn
 |kv k w r _ ih=>obtain⟨y,u,q,e,h0,hy,hv,hr⟩:=x;rw[e];exact hc k w r y u q h0 hy hv hr (ih hr)
 |_=>exact bD
theorem z30{h:O1}{l:PV}{U2:P0 (C1×K0)}(r:S8 G h l U2):DK=Y5 l:=
 Rt (C:=λ l U2=>DK=Y5 l) O (λ _ _ _ _ _ _ _ _ _ _ ih=>G6 HH ih) r
theorem Tt{h:O1}{l:PV}{U2:P0 (C1×K0)}(r:S8 G h l U2):HA l=DE (DK=0):=by
 cases l using P3 with
 |B0=>cases r;rfl
 |kv k v q=>obtain⟨x,u,q',e,_⟩:=r;subst e;rfl
 |_=>exact VI
theorem Jc{h:O1}{l:PV}{vs:P0 K0}(r:A4 G h l vs):Q7=Y5 l:=
 uG (C:=λ l vs=>Q7=Y5 l) O (λ _ _ _ _ _ _ ih=>G6 HH ih) r
theorem Bj{h:O1}{l:PV}{vs:P0 K0}(r:A4 G h l vs):HA l=DE (Q7=0):=by
 cases l using P3 with
 |B0=>cases r;rfl
 |A0 a q=>obtain⟨v,q',e,_⟩:=r;subst e;rfl
 |_=>exact VI
theorem uS{x y:C1}{v:K0}{q:P0 (C1×K0)}:rF ((y,v)::q) x=if y=x then E0 v else rF q x:=by
 unfold rF;by_cases h:y=x
 ·rw[w3 h];simp[h]
 ·rw[u3 h];simp[h]
theorem vS{h:O1}{x:C1}(hx:vc x≠0){l:PV}{U2:P0 (C1×K0)}(r:S8 G h l U2):(H4 (vc x) l=H0/\rF U2 x=H0)\/∃p u,H4 (vc x) l=E0 p/\rF U2 x=E0 u/\F3 G h p u:=by
 refine Rt (C:=λ l U2=>(H4 (vc x) l=H0/\rF U2 x=H0)\/∃p u,H4 (vc x) l=E0 p/\rF U2 x=E0 u/\F3 G h p u) (.S2 ⟨O,O⟩) (λ k v r y u q h0 hy hv _ ih=>?_) r;rw[uH,uS];by_cases e:y=x
 ·subst e;rw[w3 hy.Y3,w3 O];exact .L2 ⟨v,u,O,O,hv⟩
 ·rw[u3 (λ q=>e (cO (hy.V2 q) (by rw[hy];exact h0))),u3 e];exact ih
theorem Ut(x:C1)(v:K0):NJ [] x v=[(x,v)]:=O
theorem Vt{x y:C1}{u v:K0}{q:P0 (C1×K0)}(hn:y∉q.Y4 (·.1)):NJ ((y,u)::q) x v=if y=x then(y,v)::q else(y,u)::NJ q x v:=by
 unfold NJ;by_cases h:y=x
 ·subst h;rw[w3 O,w3 (by simp)];rw[vT,w3 O,map_store_of_not_mem q y v hn]
 ·rw[u3 h];by_cases h2:q.K4 (λ kv=>kv.1=x)=I0
  ·rw[w3 (by simp[h2]),w3 h2];simp[h]
  ·rw[u3 (by simp[h,h2]),u3 h2];rfl
theorem Kc{h:O1}{x:C1}{p:PV}{v:K0}(hx:vc x≠0)(hv:F3 G h p v){l:PV}{U2:P0 (C1×K0)}(hn:(bN (·.1)).GD)(r:S8 G h l U2):S8 G h (z5 (vc x) p l) (NJ U2 x v):=by
 refine Rt (C:=λ l U2=>(bN (·.1)).GD->S8 G h (z5 (vc x) p l) (NJ U2 x v)) (λ _=>⟨x,v,[],O,hx,O,hv,O⟩) (λ k w r y u q h0 hy hw hr ih hn=>?_) r hn;rw[vT,CP]at hn;rw[Vt hn.1];show S8 G h (bif Y1 k (vc x)then .kv k p r else .kv k w (z5 (vc x) p r)) _;by_cases e:y=x
 ·subst e;rw[w3 O,hy,fZ];exact⟨y,v,q,O,h0,hy,hv,hr⟩
 ·rw[u3 e,rS (λ q=>e (cO (hy.V2 q) (by rw[hy];exact h0)))];exact⟨y,u,_,O,h0,hy,hw,ih hn.2⟩
theorem ZY{x:C1}{t:O6}:(CD bE kE).is x (.Y0 x t)=I0:=by
 show Sc x (.Y0 x t)=I0;simp[Sc]
theorem sx{h:O1}{a:H1}{U2:P0 (C1×K0)}(d:h.PR (CD bE kE) a U2):(bN (·.1)).GD:=by obtain⟨_,_,_,_,_,_,_,_,hn⟩:=d;exact hn
theorem nM(g:J1 B A G s){i:C0}(hi:i<I3)(hn:O3 i≠.K4):(Y2 i==mZ)=R0:=by
 have hb:=vC i hi hn;cases e:Y2 i==mZ with
 |R0=>rfl
 |I0=>
  have:Y2 i=mZ:=by simpa using e
  have hs:=B.N30;rw[<-J2,hb]at hs;contradiction
def xS(B:Bs)(A:B6)(s:D1)(v w:K0)(t:I1):Prop:=
 (∀{Q:K0->D1->Prop}{E},Q (.N3 t) s->V0 R2 A (RN .Eq v w) Q E s)/\(∀{Q:K0->D1->Prop}{E},Q (.N3 (!t)) s->V0 R2 A (RN .ly v w) Q E s)
theorem vx{v w:K0}{d e:CA}{k l:C0}(hu:Cu A)(x:RD W0 v d k)(y:RD W0 w e l)(hk:k<=60):xS B A s v w (u6 d e):=by
 obtain⟨as,ra⟩:=x.r;obtain⟨bs,rb⟩:=y.r;have C6:mL+uB Fo e.tT<cP:=by
  have h1:=wt Fo e.tT;have h2:=x.d;have:mL+100<cP:=hu;exact ω43 ‹_› ‹_› ‹_› ‹_›
 exact⟨λ h=>DT0 ra rb So To C6 h,λ h=>ET0 ra rb So To C6 h⟩
theorem nL{h:O1}{a vs n ds k}(e:B3 a=E0 (lB vs n))(y:yK h vs ds k):RD h (.J0 a) (.M1 ds) (k+1):=by
 obtain⟨bs,s⟩:=y.r;exact⟨⟨_,.M1 e O O (by simpa using s)⟩,by simpa[x90]using To,by simp only[Id];exact yJ y.d⟩
theorem KJ0{a b:PV}{v w:K0}(hu:Cu A)(g:J1 B A G s)(r:F3 G W0 a v)(r':F3 G W0 b w):Gm (λ _ _ t=>xS B A s v w t) (eqD a b) I5 R1:=by
 refine XU λ ha=>XU λ hb=>?_;obtain⟨a0,a1⟩:=tS ha;obtain⟨b0,b1⟩:=tS hb;have x:=ki FE a0 r;have y:=ki FE b0 r';refine(Ht a b I5 R1 x.1 y.1).D5 λ R3 Z5 t ts f8 e=>?_;have e:t=_:=e;rw[e,(fF ts x.1).1,(fF ts y.1).1];exact vx hu x.2 y.2 a1
theorem M9{h:O1}{a:H1}{vs:P0 K0}{n:C0}(e:B3 a=E0 (lB vs n)):wx a JB:=⟨_,e,O,_,O⟩
theorem Lc{h:O1}{a:H1}{vs:P0 K0}{n:C0}(e:B3 a=E0 (E8 vs n)):h.IsTuple a JB:=⟨_,e,O,_,O⟩
theorem zK(h:Cu A):mL<cP:=by have:mL+100<cP:=h;exact ω25 ‹_›
theorem NA0{a b:H1}{vs ws:P0 K0}{n m:C0}(hu:Cu A)(e:E3 a=E0 (lB vs n))(e':E3 b=E0 (lB ws m))(hl:Q7≠df):xS B A s (.J0 a) (.J0 b) R0:=
 ⟨λ h=>Xn.lT0 (M9 e) (M9 e') (by simpa using hl) (zK hu) _ _ _ _ h,λ h=>Rm.lT0 (M9 e) (M9 e') (by simpa using hl) (zK hu) _ _ _ _ h⟩
theorem LJ0{i j:C0}{x y:AO}(hu:Cu A)(g:J1 B A G s)(hi:i<I3)(hj:j<I3)(ex:O3 i=x)(ey:O3 j=y):Gm (λ _ _ t=>xS B A s (.J0 (Y2 i)) (.J0 (Y2 j)) t) (D10 x y) I5 R1:=by
 have ox:=GA i hi;have oy:=GA j hj;rw[ex]at ox;rw[ey]at oy;cases x using EA with
 |M1 l=>
  cases y using EA with
  |M1 m=>
   obtain⟨vs,n,e1,r1⟩:=ox;obtain⟨ws,n',e2,r2⟩:=oy;have n1:=Bj r1;have n2:=Bj r2;show Gm _ (bif HA l then W1 (HA m)else bif HA m then W1 R0 else C10 l m) I5 R1;cases h1:HA l with
   |I0=>
    rw[h1]at n1;have z1:Q7=0:=xa F00;refine o8 ?_;cases h2:HA m with
    |I0=>
     rw[h2]at n2;have z2:df=0:=xa H00;have q1:=D80 z1;have q2:=D80 z2;subst q1;subst q2;exact vx (d:=.M1 []) (e:=.M1 []) (k:=0+1) (l:=0+1) hu (nL e1 bz) (nL e2 bz) (by decide)
    |R0=>
     rw[h2]at n2;have z2:¬df=0:=Y80 H00;exact NA0 hu e1 e2 (by omega)
   |R0=>
    rw[h1]at n1;have z1:¬Q7=0:=Y80 F00;cases h2:HA m with
    |I0=>
     rw[h2]at n2;have z2:df=0:=xa H00;exact o8 (NA0 hu e1 e2 (by omega))
    |R0=>
     refine XU λ ha=>XU λ hb=>?_;obtain⟨a0,a1⟩:=tS ha;obtain⟨b0,b1⟩:=tS hb;have x:=qi FE a0 r1;have y:=qi FE b0 r2;refine(EJ0 l m I5 R1 x.1 y.1).D5 λ R3 Z5 t ts f8 e=>?_;have e:t=_:=e;rw[e,(fF ts x.1).2,(fF ts y.1).2];have hu':Cu A:=hu;have:=vx (B:=B) (A:=A) (d:=.M1 (K9 I5 l)) (e:=.M1 (K9 I5 m)) hu (nL e1 (x.2.D5 a1)) (nL e2 y.2);obtain⟨as,ra⟩:=(nL e1 x.2).r;obtain⟨bs,rb⟩:=(nL e2 y.2).r;have C6:mL+uB (CA.M1 (K9 I5 l)).tT (CA.M1 (K9 I5 m)).tT<cP:=by
      have h1:=wt (CA.M1 (K9 I5 l)).tT (CA.M1 (K9 I5 m)).tT;have h2:=(nL e1 x.2).d;have:mL+100<cP:=hu;omega
     have PW0:u6 (.M1 (K9 I5 l)) (.M1 (K9 I5 m))=VC (K9 I5 l) (K9 I5 m):=by simp[u6]
     exact⟨λ h=>DT0 ra rb (nL e1 x.2).c (nL e2 y.2).c C6 h,λ h=>ET0 ra rb (nL e1 x.2).c (nL e2 y.2).c C6 h⟩
  |_=>exact WA
 |H2 l=>
  cases y using EA with
  |H2 m=>
   obtain⟨U2,d1,r1⟩:=ox;obtain⟨OA,d2,r2⟩:=oy;have s1:=nM g hi (by rw[ex];simp);have s2:=nM g hj (by rw[ey];simp);have n1:=Tt r1;have n2:=Tt r2;have eqd:∀{r:I1},(DK=pe->KeqHits pB s OA U2 r)->xS B A s (.J0 (Y2 i)) (.J0 (Y2 j)) (DK==pe&&r):=λ hh=>
    ⟨λ h=>keq_eq s1 s2 d1 d2 (zK hu) hh h,λ h=>keq_ne s1 s2 d1 d2 (zK hu) hh h⟩
   show Gm _ (bif HA l then W1 (HA m)else bif HA m then W1 R0 else F2 217) I5 R1;cases h1:HA l with
   |I0=>
    rw[h1]at n1;have z1:DK=0:=xa F00;have q1:=D80 z1;have:=eqd (r:=I0) (λ _=>by rw[q1];exact .B0);refine o8 ?_;rw[show(DK==pe&&I0)=HA m by rw[n2,z1,vk];cases h:pe<;>simp]at J2;exact J2
   |R0=>
    rw[h1]at n1;have z1:¬DK=0:=Y80 F00;cases h2:HA m with
    |I0=>
     rw[h2]at n2;have z2:pe=0:=xa H00;have:=eqd (r:=I0) (λ q=>T3 (q.V2 z2) z1);refine o8 ?_;rw[show(DK==pe&&I0)=R0 by rw[z2];simpa using z1]at J2;exact J2
    |R0=>exact WA
  |_=>exact WA
 |_=>exact WA
theorem A40{i:C0}{x:AO}{b:PV}{w:K0}(hu:Cu A)(g:J1 B A G s)(hi:i<I3)(ex:O3 i=x)(r:F3 G W0 b w):
  Gm (λ _ _ t=>xS B A s (.J0 (Y2 i)) w t/\xS B A s w (.J0 (Y2 i)) t) (Sa x b) I5 R1:=by
 have ox:=GA i hi;rw[ex]at ox;cases x using EA with
 |M1 l=>
  obtain⟨vs,n,e1,r1⟩:=ox;cases b using P3 with
  |Y0 k=>
   obtain⟨_,x,t,O,_⟩:=r;exact o8 ⟨⟨λ h=>Xn.iV0 x t (M9 e1) (zK hu) _ _ _ _ h,λ h=>Rm.iV0 x t (M9 e1) (zK hu) _ _ _ _ h⟩,
    ⟨λ h=>Xn.jV0 x t (M9 e1) (zK hu) _ _ _ _ h,λ h=>Rm.jV0 x t (M9 e1) (zK hu) _ _ _ _ h⟩⟩
  |Q0 m=>
   obtain⟨a,ws,k,O,_,e2,_⟩:=r;exact o8 ⟨⟨λ h=>Xn.sU0 (M9 e1) (Lc e2) (zK hu) _ _ _ _ h,λ h=>Rm.sU0 (M9 e1) (Lc e2) (zK hu) _ _ _ _ h⟩,
    ⟨λ h=>Xn.tU0 (Lc e2) (M9 e1) (zK hu) _ _ _ _ h,λ h=>Rm.tU0 (Lc e2) (M9 e1) (zK hu) _ _ _ _ h⟩⟩
  |_=>exact WA
 |_=>exact WA
theorem B40{a b:PV}{v w:K0}(hu:Cu A)(g:J1 B A G s)(r:F3 G W0 a v)(r':F3 G W0 b w):Gm (λ _ _ t=>xS B A s v w t) (Lp a b) I5 R1:=by
 cases a using P3 with
 |J0 i=>
  obtain⟨hi,O⟩:=r;cases b using P3 with
  |J0 j=>obtain⟨hj,O⟩:=r';exact Q_ O (LJ0 hu g hi hj O O)
  |_=>exact Q_ (m':=Sa (O3 i) _) O ((A40 hu g hi O r').D5 λ _ _ _ _ _ x=>x.1)
 |_=>
  cases b using P3 with
  |J0 j=>obtain⟨hj,O⟩:=r';exact Q_ (m':=Sa (O3 j) _) O ((A40 hu g hj O r).D5 λ _ _ _ _ _ x=>x.2)
  |_=>exact KJ0 hu g r r'
def InB(B:Bs)(A:B6)(s:D1)(v w:K0)(t:I1):Prop:=
 (∀{Q:K0->D1->Prop}{E},(∀k,Q (.N3 t) {s with y3:=X4+k})->V0 R2 A (RN .In v w) Q E s)/\(∀{Q:K0->D1->Prop}{E},(∀k,Q (.N3 (!t)) {s with y3:=X4+k})->V0 R2 A (RN .my v w) Q E s)
theorem C40{a b:PV}{v w:K0}(hu:Cu A)(g:J1 B A G s)(r:F3 G W0 a v)(r':F3 G W0 b w):Gm (λ _ _ t=>InB B A s v w t) (Np a b) I5 R1:=by
 have C6:∀{xs:P0 CA}{d:CA}{k:C0},bb xs<=k->k<=60->mL+1+uB (bb xs) Fo<cP:=λ{xs d k} h1 h2=>by
  have:=wt (bb xs) Fo;have:mL+100<cP:=hu;exact ω57 ‹_› ‹_› ‹_› ‹_›
 cases b using P3 with
 |Q0 l=>
  obtain⟨c,ws,k,O,_,e2,rl⟩:=r';refine XU λ ha=>XU λ hb=>?_;obtain⟨a0,a1⟩:=tS ha;obtain⟨b0,b1⟩:=tS hb;have x:=qi FE a0 rl;have y:=ki FE b0 r;obtain⟨as,ra⟩:=(rA0 e2 x.2).r;obtain⟨bs,rb⟩:=y.2.r;refine(u30 a l I5 R1 y.1 x.1).D5 λ R3 Z5 t ts f8 e=>?_;rw[e,(fF ts x.1).2,(fF ts y.1).1];exact⟨λ h=>in_tuple_reads ra rb x.2.c y.2.c (C6 x.2.d a1) (h 0),λ h=>notIn_tuple_reads ra rb x.2.c y.2.c (C6 x.2.d a1) (h 0)⟩
 |J0 i=>
  obtain⟨hi,O⟩:=r';refine Q_ (m':=inO a (O3 i)) O ?_;have ox:=GA i hi;cases ex:O3 i with
  |M1 l=>
   rw[ex]at ox;obtain⟨vs,n,e1,rl⟩:=ox;refine XU λ ha=>XU λ hb=>?_;obtain⟨a0,a1⟩:=tS ha;obtain⟨b0,b1⟩:=tS hb;have x:=qi FE a0 rl;have y:=ki FE b0 r;obtain⟨as,ra⟩:=(nL e1 x.2).r;obtain⟨bs,rb⟩:=y.2.r;refine(u30 a l I5 R1 y.1 x.1).D5 λ R3 Z5 t ts f8 e=>?_;rw[e,(fF ts x.1).2,(fF ts y.1).1];exact⟨λ h=>in_list_reads ra rb x.2.c y.2.c (C6 x.2.d a1) (h 0),λ h=>notIn_list_reads ra rb x.2.c y.2.c (C6 x.2.d a1) (h 0)⟩
  |H2 l=>
   rw[ex]at ox;obtain⟨U2,d1,r1⟩:=ox;have s1:=nM g hi (by rw[ex];simp);cases a using P3 with
   |Y0 n=>
    obtain⟨h0,x,t,O,O⟩:=r;have both:∀b,(rF U2 x).sL=b->InB B A s (.Y0 x t) (.J0 (Y2 i)) b:=λ b e=>by
     subst e;exact⟨λ h=>wpAny_in_of ZY s1 y90 (h 1),λ h=>wpAny_notIn_of ZY s1 y90 (h 1)⟩
    show Gm _ (@ZW PV (λ _=>M I1) (W1 R0) (λ _=>W1 I0) (H4 (vc x) l)) I5 R1;rcases vS h0 r1 with⟨q1,q2⟩|⟨p,u,q1,q2,_⟩
    ·rw[q1];exact o8 (both _ (by rw[q2];rfl))
    ·rw[q1];exact o8 (both _ (by rw[q2];rfl))
   |_=>exact WA
  |_=>exact WA
 |_=>exact WA
def Mc:bG->eE
 |.eq=> .Eq|.ne=> .ly|.e8=> .In|.pI=> .my|.cG=> .Is|.mE=> .Zm|.gt=> .Gt|.lt=> .Lt|.ge=> .Pg
theorem D40{m:M I1}{R:I1->Prop}(h:Gm (λ _ _ t=>R t) m I5 R1):Gm (λ _ _ t=>R (!t)) (M.fW0 m) I5 R1:=Qf h λ R3 Z5 a ts f8 r=>o8 (by rw[g90];exact r)
theorem MJ0{op:bG}{a b:PV}{v w:K0}(hu:Cu A)(g:J1 B A G s)(r:F3 G W0 a v)(r':F3 G W0 b w)(hn:(op=.cG\/op=.mE)->w=.H0):
  U4 B RB F A (S1 op a b) (RN (Mc op) v w) G s:=by
 cases op using bG.W9 with
 |eq=>exact U4.gW0 g (B40 hu g r r') λ R3 Z5 t ts e Q E k=>e.1 (k _ O)
 |ne=>exact U4.gW0 g (D40 (B40 hu g r r')) λ R3 Z5 t ts e Q E k=>e.2 (k _ (by rw[g90]))
 |e8=>
  intro P X M0;obtain⟨R3,Z5,t,ts,f8,rr,p⟩:=C40 hu g r r' FE P X M0;refine rr.1 λ k=>?_;obtain⟨g1,D2⟩:=g.upT ts f8;obtain⟨g2,I2⟩:=I00 (X4+k);exact .at (R:=RB) ((wH D2).V2 (wH I2)) g2 O p
 |pI=>
  intro P X M0;obtain⟨R3,Z5,t,ts,f8,rr,p⟩:=D40 (C40 hu g r r') FE P X M0;refine rr.2 λ k=>?_;obtain⟨g1,D2⟩:=g.upT ts f8;obtain⟨g2,I2⟩:=I00 (X4+k);exact .at (R:=RB) ((wH D2).V2 (wH I2)) g2 (by rw[g90]) p
 |cG=>have e:=hn (.S2 O);subst e;exact IJ0 g r
 |mE=>have e:=hn (.L2 O);subst e;exact JJ0 g r
 |gt=>exact Ot (.S2 ⟨O,O⟩) g r r'
 |lt=>exact Ot (.L2 (.S2 ⟨O,O⟩)) g r r'
 |ge=>exact Ot (.L2 (.L2 ⟨O,O⟩)) g r r'
end
section
section
variable{B:Bs}{A:Around}{G:Gh}{s:Shared}{F:Addr->Prop}
theorem J1.Wt(g:J1 B A G s):RH.hO<=P2:=B.uf W0 gE λ b o e h1 h2 h3=>QB b o e h1 h2 h3
theorem rA(h:O1)(ob:C4):∀b o,B3 b=E0 o->(iN ob).W5 b=E0 o:=λ b o e=>S6 _ e
theorem J1.E40(g:J1 B A G s)(ob:C4)(tk:O6):J1 B A G {s with A3:=F8 ob,y3:=tk}/\Z2 B N2 G s G {s with A3:=F8 ob,y3:=tk}:=g.rB (rA _ _)
theorem J1.y6{o:AO}{ob:C4}{tk:O6}(g:J1 B A G s)(ho:vE B (o7 o P2) (F8 ob) P2 o):
  J1 B A (o7 o P2) {s with A3:=F8 ob,y3:=tk}/\Z2 B N2 G s (o7 o P2) {s with A3:=F8 ob,y3:=tk}:=
 g.OB (rA _ _) (NE (A8 _)) g.Wt ho
theorem F40(h:O1)(ob:C4){av:P0 H1}:zB av h (iN ob):=λ b vs k _ e=>rA _ _ _ _ e
theorem A4.grow{o:AO}{ob:C4}{a:H1}{p:PV}{v:P0 K0}(x:A4 G W0 p v):A4 (o7 o a) (F8 ob) p v:=n00 (iU o a) (F40 _ _)
theorem J1.WR{l:PV}{vs:P0 K0}{tk:O6}{k:C0}(g:J1 B A G s)(r:A4 G W0 l vs):
  J1 B A (o7 (.M1 l) P2) {s with A3:=F8 (lB vs k),y3:=tk}/\Z2 B N2 G s (o7 (.M1 l) P2) {s with A3:=F8 (lB vs k),y3:=tk}/\
   F3 (o7 (.M1 l) P2) (F8 (lB vs k)) (.J0 I3) (.J0 P2):=by
 have h:=g.y6 (o:=.M1 l) (ob:=lB vs k) (tk:=tk) ⟨vs,k,BA _ O,r.grow⟩;exact⟨h.1,h.2,rD _,G6 w6 (w3 O).Y3⟩
theorem J1.G40{l:PV}{vs:P0 K0}{tk:O6}{k:C0}(g:J1 B A G s)(r:A4 G W0 l vs):
  J1 B A G {s with A3:=F8 (E8 vs k),y3:=tk}/\Z2 B N2 G s G {s with A3:=F8 (E8 vs k),y3:=tk}/\F3 G (F8 (E8 vs k)) (.Q0 l) (.J0 P2):=by
 have h:=g.E40 (E8 vs k) tk;refine⟨h.1,h.2,P2,vs,k,O,λ q=>?_,BA _ O,UI (.L5 G) (F40 _ _)⟩;obtain⟨o,e⟩:=(xD _ q).2;rw[NE (A8 _)]at e;contradiction
theorem NJ0(m a r:PV):jE m (.A0 a r)=.A0 a (jE m r):=O
section
variable{h:Heap}{l m:PV}{vs ws:List Value}
theorem Yt(r:A4 G h l vs):∀{n p},YJ l n=E0 p->∃u,vs[n]?=E0 u/\F3 G h p u:=by
 refine uG (C:=λ l vs=>∀{n p},YJ l n=E0 p->∃u,vs[n]?=E0 u/\F3 G h p u) (λ e=>nomatch e) (λ a r v q hv hr ih n p e=>?_) r;induction n using ML with
 |i9=>obtain O:=H3 e;exact⟨v,O,hv⟩
 |c9 n=>exact ih e
theorem Nc(r:A4 G h l vs)(r':A4 G h m ws):A4 G h (jE m l) (vs++ws):=
 uG (C:=λ l vs=>A4 G h (jE m l) (vs++ws)) r' (λ a r v q hv hr ih=>⟨v,q++ws,O,hv,ih⟩) r
theorem OJ0{a:PV}{v:K0}(r:A4 G h l vs)(hv:F3 G h a v):A4 G h (nR a l) (vs++[v]):=Nc r ⟨v,[],O,hv,O⟩
theorem PJ0(r:A4 G h l vs):∀{m ws},A4 G h m ws->A4 G h (QO l m) (p00++ws):=by
 refine uG (C:=λ l vs=>∀{m ws},A4 G h m ws->A4 G h (QO l m) (p00++ws)) (λ r=>r) (λ a r v q hv hr ih m ws r'=>?_) r;have:=ih (m:=.A0 a m) (ws:=v::ws) ⟨v,ws,O,hv,r'⟩;rw[t80,P0.append_assoc];exact J2
theorem Cj(r:A4 G h l vs):A4 G h (QO l .B0) p00:=by
 have:=PJ0 (m:=.B0) (ws:=[]) r O
 rwa [lv]at J2
theorem QJ0(r:A4 G h l vs):∀n,A4 G h (Dp l n) (Rf n):=by
 intro n;induction n generalizing l vs with
 |i9=>cases l using P3<;>exact r
 |c9 n ih=>
  cases l using P3 with
  |B0=>cases r;exact O
  |A0 a q=>obtain⟨v,w,e,hv,hr⟩:=r;subst e;exact ih hr
  |_=>exact VI
theorem RJ0(r:A4 G h l vs):∀n,A4 G h (Ep l n) (vs.vL n):=by
 refine uG (C:=λ l vs=>∀n,A4 G h (Ep l n) (vs.vL n)) (λ n=>by simp;exact O) (λ a r v q hv hr ih n=>?_) r;induction n using ML with
 |i9=>exact O
 |c9 n=>exact⟨v,_,O,hv,ih n⟩
theorem SJ0(r:A4 G h l vs)(a b:C0):A4 G h (z_ l a b) ((Rf a).vL (b-a)):=RJ0 (QJ0 r a) _
theorem TJ0(r:A4 G h l vs){q:PV}{a:PV}(e:Ke l=E0 (q,a)):∃ws v,vs=ws++[v]/\A4 G h q ws/\F3 G h a v:=by
 have rr:=Cj r;unfold Ke at e;cases hx:QO l .B0 with
 |A0 b t=>
  rw[hx]at e rr;cases e;obtain⟨v,w,e2,hv,hr⟩:=rr;refine⟨w.RL,v,?_,Cj hr,hv⟩;have:=G6 P0.RL e2;rw[P0.reverse_reverse]at J2;rw[J2,t80]
 |_=>rw[hx]at e;contradiction
theorem UJ0(r:A4 G h l vs){p:PV}{v:K0}(hv:F3 G h p v):∀{n q},rU l n p=E0 q->n<Q7/\A4 G h q (vs.set n v):=by
 refine uG (C:=λ l vs=>∀{n q},rU l n p=E0 q->n<Q7/\A4 G h q (vs.set n v)) (λ{n q} e=>?_) (λ a r u w hu hr ih n q e=>?_) r
 ·cases n using ML<;>contradiction
 ·induction n using ML with
  |i9=>obtain O:=H3 e;exact⟨C0.zero_lt_succ _,v,w,O,hv,hr⟩
  |c9 n=>
   change(rU r n p).Y4 (DB0 a)=E0 q at e;cases hx:rU r n p with
   |H0=>rw[hx]at e;contradiction
   |E0 t=>
    rw[hx]at e;obtain O:=H3 e;obtain⟨k1,k2⟩:=ih hx;exact⟨At k1,u,_,O,hu,k2⟩
end
theorem yS{h:O1}{l:PV}{vs:P0 K0}(r:A4 G h l vs)(e:H5 l=I0):Q7<=60:=by
 rw[Jc r];exact i6 e
theorem Zt{h:O1}{l:PV}{vs:P0 (C1×K0)}(r:S8 G h l vs)(e:H5 l=I0):Q7<=60:=by
 rw[z30 r];exact i6 e
end
end
section
open PyProof.Rows
variable{B:Bs}{A:Around}{G:Gh}{s:Shared}{F:Addr->Prop}
noncomputable abbrev RT:Gh->O1->I1->I1->Prop:=λ _ _ a b=>b=a
theorem bU{α β:Type}{R:Gh->O1->α->β->Prop}{P:α->K1->Prop}{a:α}{b:β}(g:J1 B A G s)(k:O6)(r:R G W0 a b)(p:P a R1):Po B R F A G s P b {s with y3:=k}:=
 let⟨g',st⟩:=g.y3 k;.at (wH st) g' r p
theorem fO{h:O1}{a:H1}{vs:P0 K0}{n:C0}(e:B3 a=E0 (E8 vs n)):Cz h a JB:=⟨_,e,O,_,O⟩
theorem pv{vs:P0 K0}{b:I1}(h:b=DE (Q7=0)):(!JB.WL)=!b:=by
 subst h;cases vs using c5<;>simp
theorem Dj{p:PV}{v:K0}(g:J1 B A G s)(r:F3 G W0 p v):U4 B RT F A (iC p) (YA0 v) G s:=by
 intro P X M0;cases p using P3 with
 |H0=>
  cases r;exact truthy_none (.CB (R:=RT) g O M0)
 |N3 b=>cases r;exact zi (.CB (R:=RT) g O M0)
 |Q0 l=>
  symm;obtain⟨a,vs,k,O,_,e,rl⟩:=r;change((bif H5 l then W1 (!(HA l))else F2 8) R1).P1 P X at M0;obtain⟨hs,M0⟩:=EG M0;have:=yS rl hs;ext;refine truthy_tuple (fO e) (by simp;omega) ?_;rw[pv (Bj rl)];exact bU (R:=RT) g _ O M0
 |J0 i=>
  symm;obtain⟨hi,O⟩:=r;change((w5 7 (Ua (O3 i))) R1).P1 P X at M0;obtain⟨b,hb,hp⟩:=r9 M0;have ob:=GA i hi;cases ex:O3 i with
  |M1 l=>
   rw[ex]at ob hb;obtain⟨vs,n,e1,r1⟩:=ob;change(bif H5 l then E0 (!(HA l))else H0)=E0 b at hb;obtain⟨hs,hb⟩:=PC hb;obtain O:=H3 hb;have:=yS r1 hs;ext;refine wpAny_truthy_list (M9 e1) (by simp;omega) ?_;rw[pv (Bj r1)];exact bU (R:=RT) g _ O hp
  |H2 l=>
   rw[ex]at ob hb;obtain⟨U2,d1,r1⟩:=ob;change(bif H5 l then E0 (!(HA l))else H0)=E0 b at hb;obtain⟨hs,hb⟩:=PC hb;obtain O:=H3 hb;have:=Zt r1 hs;ext;refine wpAny_truthy_dict (nM g hi (by rw[ex];simp)) d1 (by omega) ?_;have e2:(!U2.WL)=!HA l:=by rw[Tt r1];cases U2 using c5<;>simp
   rw[e2];exact bU (R:=RT) g _ O hp
  |_=>
   ext;rw[ex]at hb;contradiction
 |_=>exact B4
theorem VJ0(ok:iA I5 R1){h:O1}{i:C0}(hi:i<PB){c:PV}(hc:nN (G.V8 (x_ i))=E0 c){v:K0}(r:F3 G h (.ty i) v):F3 G h (.Q0 c) v:=by
 symm;have d:=pJ ok hi;have S9:=cN _ d.1;obtain⟨_,r⟩:=r;rw[<-d.2]at r;have up:∀(p:PV){v:K0},mJ E5 p h v->F3 G h p v:=λ p{v} x=>Js x;cases hx:G.V8 (x_ i)with
 |OC=>
  ext;rw[hx]at hc;contradiction
 |al=>
  ext;rw[hx]at hc;contradiction
 |eA k=>
  rw[hx]at hc S9;obtain O:=H3 hc;obtain⟨h1,h2⟩:=S9;have:k=0\/k=1\/k=2:=by exact ω9 _ ‹_›
  rcases J2 with O|O|O
  ·have e:I5 (x_ i)=.u8:=bV (by exact Aa ‹_› O) h2;ext;rw[e]at r;exact up (.Q0 (IS 0)) r
  ·have e:I5 (x_ i)=.uE:=bV (by exact Aa ‹_› O) h2;ext;rw[e]at r;exact up (.Q0 (IS 1)) r
  ·have e:I5 (x_ i)=.X:=bV (by exact Aa ‹_› O) h2;ext;rw[e]at r;exact up (.Q0 (IS 2)) r
 |W8 j=>
  rw[hx]at hc S9;obtain O:=H3 hc;rw[S9.2]at r;obtain⟨a,vs,k,e,z,hg,v1,q1,e1,r1,v2,q2,e2,r2,r3⟩:=r;ext;subst e1;subst e2;cases r3;exact⟨a,_,k,e,z,hg,v1,_,O,up (.Y0 tU) r1,v2,_,O,⟨S9.1,r2⟩,O⟩
 |X8 j=>
  rw[hx]at hc S9;obtain O:=H3 hc;rw[S9.2]at r;obtain⟨a,vs,k,e,z,hg,v1,q1,e1,r1,v2,q2,e2,r2,v3,q3,e3,r3,v4,q4,e4,r4,r5⟩:=r;ext;subst e1;subst e2;subst e3;subst e4;cases r5;obtain⟨a',nC,k',e',z',aX,v5,q5,e5,r5,r6⟩:=r4;subst e5;cases r6;exact⟨a,_,k,e,z,hg,v1,_,O,up (.Y0 uU) r1,v2,_,O,up (.Y0 nS) r2,v3,_,O,up (.Q0 .B0) r3,v4,_,O,⟨a',_,k',e',z',aX,v5,_,O,⟨S9.1,r5⟩,O⟩,O⟩
theorem H40{n Y5:C0}(h:n<Y5):sZ (n:A2) Y5=E0 n:=by
 unfold sZ;have:¬((n:A2)<0):=by omega
 simp only[J2,uZ];rw[w3 (by simp;exact FT0 ‹_›)];simp
theorem HU0{n Y5:C0}(h:n<Y5):sZ (XW n) Y5=E0 (Y5-(n+1)):=by
 unfold sZ;have h1:(XW n)<0:=A2.negSucc_lt_zero n;simp only[h1,mW];rw[w3 (by simp;omega)];congr 1;omega
theorem WJ0{vs:P0 K0}{n:C0}{u:K0}(h:p00[n]?=E0 u):n<Q7/\vs[Q7-(n+1)]?=E0 u:=by
 have hn:n<Q7:=by
  have:=(jp h).1;simpa using J2
 refine⟨hn,?_⟩;rw[P0.getElem?_reverse hn]at h;rw[<-h];congr 1;exact ω17
theorem I40{h:O1}{l:PV}{vs:P0 K0}(r:A4 G h l vs){i:A2}{p:PV}(e:JS l i=E0 p):
  ∃u j,vs[j]?=E0 u/\F3 G h p u/\sZ i Q7=E0 j/\ -(2^63)<=i/\i<2^63:=by
 cases i using SL with
 |N4 n=>
  symm;change(bif O9 n 60 then YJ l n else H0)=E0 p at e;obtain⟨hb,e⟩:=PC e;have:=i6 hb;obtain⟨u,hu,ru⟩:=Yt r e;have hn:=(jp hu).1;ext;exact⟨u,n,hu,ru,H40 hn,by rw[PZ];exact JL _,by rw[PZ];omega⟩
 |KB n=>
  symm;change(bif O9 n 60 then YJ (QO l .B0) n else H0)=E0 p at e;obtain⟨hb,e⟩:=PC e;have:=i6 hb;obtain⟨u,hu,ru⟩:=Yt (Cj r) e;obtain⟨hn,hu'⟩:=WJ0 hu;ext;exact⟨u,_,hu',ru,HU0 hn,by omega,by omega⟩
def aY(B:Bs)(A:B6)(o i:K0)(Q:K0->D1->Prop)(E:K0->D1->Prop)(s:D1):Prop:=∃T id,aC o T/\MA (.U0 T) "__getitem__"=J4 (E0 (.Z4 id))/\V0 R2 A (XR o i) Q E s
theorem XJ0{l:H1}{vs:P0 K0}{n:C0}{i:A2}{t:O6}{j:C0}{x:K0}{Q:K0->D1->Prop}{E}(e:E3 l=E0 (lB vs n))(h0: -(2^63)<=i)(h1:i<2^63)
  (hj:sZ i Q7=E0 j)(hx:vs[j]?=E0 x)(h:Q x s):V0 R2 A (XR (.J0 l) (.j0 i t)) Q E s:=by
 unfold sZ at hj;by_cases hi:i<0
 ·simp only[hi,mW]at hj
  split at hj
  ·rename_i hc;simp only[N5,decide_eq_true_eq]at hc;obtain O:=H3 hj;exact wpAny_getItem_list_neg (M9 e) hi (by simp;omega) h0 (by simpa using hx) h
  ·contradiction
 ·simp only[hi,uZ]at hj
  split at hj
  ·obtain O:=H3 hj;exact bS0 (M9 e) (by exact lk ‹_›) h1 (by simpa using hx) h
  ·contradiction
theorem jt{o i:PV}{v w:K0}(g:J1 B A G s)(r:F3 G W0 o v)(r':F3 G W0 i w){P:PV->K1->Prop}{X:C0->K1->Prop}(M0:(xL o i R1).P1 P X):
  aY B A v w (Po B RV F A G s P) (Px B F A G s X) s:=by
 symm;have Q0:∀{l:PV}{k:A2}{t:O6}{v:K0}{p:PV},F3 G W0 (.Q0 l) v->JS l k=E0 p->P p R1->aY B A v (.j0 k t) (Po B RV F A G s P) (Px B F A G s X) s:=λ{l k t v p} r hp hP=>by
  symm;obtain⟨a,vs,n,O,_,e,rl⟩:=r;obtain⟨u,j,hu,ru,hj,h0,h1⟩:=I40 rl hp;ext;exact⟨_,_,(fO e).wC,E80,mT0 (fO e) h0 h1 (by simpa using hj) (by simpa using hu) (.CB g ru hP)⟩
 cases o using P3 with
 |Q0 l=>
  cases i using P3 with
  |j0 k=>
   obtain⟨t,O⟩:=r';obtain⟨p,hp,hP⟩:=r9 M0;ext;exact Q0 r hp hP
  |_=>exact B4
 |J0 j=>
  obtain⟨hj,O⟩:=r;change(w5 27 (Sp i (O3 j)) R1).P1 P X at M0;obtain⟨p,hp,hP⟩:=r9 M0;have ob:=GA j hj;cases ex:O3 j with
  |M1 l=>
   rw[ex]at ob hp;obtain⟨vs,n,e1,r1⟩:=ob;cases i using P3 with
   |j0 k=>
    obtain⟨t,O⟩:=r';obtain⟨u,j,hu,ru,hj,h0,h1⟩:=I40 r1 hp;ext;exact⟨_,_,(M9 e1).wC,mr,XJ0 e1 h0 h1 hj hu (.CB g ru hP)⟩
   |_=>contradiction
  |H2 l=>
   rw[ex]at ob hp;obtain⟨U2,d1,r1⟩:=ob;cases i using P3 with
   |Y0 n=>
    obtain⟨h0,x,t,O,O⟩:=r';rcases vS h0 r1 with⟨q1,q2⟩|⟨p',u,q1,q2,ru⟩
    ·change H4 (vc x) l=E0 p at hp;ext;rw[q1]at hp;contradiction
    ·change H4 (vc x) l=E0 p at hp;rw[q1]at hp;obtain O:=H3 hp;ext;exact⟨_,_,d1.wC,slot_dict_getitem.X9,wpAny_getItem_of ZY y90 q2 (bU (R:=RV) g _ ru hP)⟩
   |_=>contradiction
  |_=>
   ext;rw[ex]at hp;contradiction
 |ty j=>
  have hj:=r.1;have full:∀{k:A2}{t:O6}{p:PV},w=.j0 k t->((nN (G.V8 (x_ j))).R6 λ c=>JS c k)=E0 p->P p R1->aY B A v w (Po B RV F A G s P) (Px B F A G s X) s:=λ{k t p} ew hp hP=>by
   symm;subst ew;cases hc:nN (G.V8 (x_ j))with
   |H0=>
    ext;rw[hc]at hp;contradiction
   |E0 c=>
    rw[hc]at hp;ext;exact Q0 (VJ0 FE hj hc r) hp hP
  cases i using P3 with
  |j0 k=>
   obtain⟨t,O⟩:=r';cases k using SL with
   |N4 n=>
    ext;induction n using ML with
    |i9=>
     change P (.lC j) R1 at M0;obtain⟨_,r⟩:=r;have hd:∃a vs k,v=.J0 a/\E3 a=E0 (E8 vs k)/\∃u,vs[0]?=E0 u/\mJ E5 (.Y0 (FD (I5 j).hd)) W0 u:=by
      revert r;cases I5 j<;>(intro r;obtain⟨a,vs,k,e,z,hg,v1,q1,e1,r1,_⟩:=r;subst e1;exact⟨a,_,k,e,hg,v1,O,r1⟩)
     obtain⟨a,vs,k,O,e,u,hu,ru⟩:=hd;have hn:=(jp hu).1;exact⟨_,_,(fO e).wC,E80,mT0 (fO e) (by decide) (by decide) (by simpa using H40 hn) (by simpa using hu) (.CB (R:=RV) (a:=.lC j) g ⟨hj,ru⟩ M0)⟩
    |c9 n=>
     obtain⟨p,hp,hP⟩:=r9 (w:=28) M0;exact full O hp hP
   |KB n=>
    obtain⟨p,hp,hP⟩:=r9 (w:=28) M0;ext;exact full O hp hP
  |_=>exact B4
 |_=>exact B4
end
section
open PyProof.Rows
variable{B:Bs}{A:Around}{G:Gh}{s:Shared}{F:Addr->Prop}
inductive J40:PV->Q1 A2->Prop
 |H0:J40 .H0 H0
 |j0(i:A2):J40 (.j0 i) (E0 i)
theorem OA0{h:O1}{p:PV}{v:K0}(r:F3 G h p v){n d a:C0}(e:Wa n d p=E0 a):∃o,cR v o/\a=o.HB d (OF n):=by
 cases p using P3 with
 |H0=>cases r;obtain O:=H3 e;exact⟨H0,.H0,O⟩
 |j0 i=>
  obtain⟨t,O⟩:=r;refine⟨E0 i,.j0 i t,?_⟩;cases i using SL with
  |N4 k=>
   change E0 (bif O9 k n then k else n)=E0 a at e;show a=OF n (FA k);rw[PZ,clipAt_nat];cases hb:O9 k n with
   |I0=>rw[hb]at e;obtain O:=H3 e;have:=i6 hb;show k=_;exact ω65 ‹_›
   |R0=>
    rw[hb]at e;obtain O:=H3 e;have:¬k<=n:=λ q=>by rw[U80 q]at hb;contradiction
    show n=_;exact ω70 ‹_›
  |KB k=>
   obtain O:=H3 e;show n-(k+1)=OF n (XW k);rw[show XW k= -((k+1:C0):A2) by omega,clipAt_neg _ _ (by exact i6 O)]
 |_=>contradiction
def AL(vs:P0 K0)(a b:C0):P0 K0:=(Rf a).vL (b-a)
theorem YJ0{l sl:H1}{vs:P0 K0}{n:C0}{vl vu:K0}{lo hi:Q1 A2}{Q:K0->D1->Prop}{E}(e:E3 l=E0 (lB vs n))(hs:lj sl vl vu .H0)(pl:cR vl lo)(pu:cR vu hi)(hz:Q7<=60)
  (h:Q (.J0 P2) {s with A3:=F8 (lB (AL vs (Y_ 0 (OF Q7)) (Sf Q7 (OF Q7))) 0)}):V0 R2 A (XR (.J0 l) (.J0 sl)) Q E s:=by
 refine IS0 (M9 e) hs pl pu .H0 (by trivial) ?_ (by simp;exact W6 hz (by decide));rw[slicePick_plain];unfold AL at h;simpa using h
theorem ZJ0{sl:H1}{vl vu:K0}{lo hi:Q1 A2}{n:C0}{Q:A2×A2×C0->D1->Prop}{E}(hs:lj sl vl vu .H0)(pl:cR vl lo)(pu:cR vu hi)
  (h:Q (((Y_ 0 (OF n):C0):A2),1,Sf n (OF n)-Y_ 0 (OF n)) s):V0 R2 A (yR0.sliceApplied (.J0 sl) (J4 (n:A2))) Q E s:=by
 obtain⟨os,Ug,UF,Vo⟩:=id hs;have part:∀{v:K0}{o:Q1 A2}{Q:Q1 A2->D1->Prop}{s},cR v o->Q o s->V0 R2 A (yR0.slicePartIndex v) Q E s:=λ p h=>by
  cases p with
  |H0=>exact TT0 h
  |j0 i t=>exact slicePart_int h
 refine S0 (S0 (M7 Ug Vo (x:=vl) O (S0 (M7 Ug Vo (x:=vu) O (S0 (M7 Ug Vo (x:=.H0) O (E2 ?_)))))));refine S0 (TT0 ?_);show V0 _ _ (if((1:A2)==0)=I0 then _ else _) _ _ s;refine S0 (part pl (S0 (part pu (S0 (E2 ?_)))));show V0 _ _ (match F80 lo hi 1 (n:A2)with|(lo,hi)=>J4 (lo,(1:A2),pp lo hi 1)) _ _ s;have cl:∀v:A2,(if v<0 then No (v+n) 0 else uB v n)=((OF n v:C0):A2):=λ v=>by
  rw[YU0];split<;>(first|exact ω11 ‹_›|exact ω36 ‹_›)
 have adj:F80 lo hi 1 (n:A2)=(((Y_ 0 (OF n):C0):A2),((Sf n (OF n):C0):A2)):=by
  unfold F80;have h1:¬((1:A2)<0):=by omega
  simp -u4 only[h1,uZ];cases lo using Y9<;>cases hi using Y9<;>simp -u4 only[Q1.HB,cl]<;>rfl
 have places:∀a b:C0,pp (a:A2) (b:A2) 1=b-a:=λ a b=>by
  unfold pp;have h1:(1:A2)>0:=by exact JL _
  simp only[h1,mW,A2.ediv_one]
  split<;>omega
 rw[adj];show V0 _ _ (J4 (_,(1:A2),pp _ _ 1)) _ _ s;rw[places];exact E2 h
theorem aJ0(n:C0)(i:A2):OF n i<=n:=by have:=YU0 n i;exact ω26 ‹_›
theorem bJ0{t sl:H1}{vs:P0 K0}{n:C0}{vl vu:K0}{lo hi:Q1 A2}{Q:K0->D1->Prop}{E}(e:E3 t=E0 (E8 vs n))(hs:lj sl vl vu .H0)(pl:cR vl lo)(pu:cR vu hi)(hz:Q7<=60)
  (h1:AL vs (Y_ 0 (OF Q7)) (Sf Q7 (OF Q7))=vs->Q (.J0 t) s)
  (h2:Q (.J0 P2) {s with A3:=F8 (E8 (AL vs (Y_ 0 (OF Q7)) (Sf Q7 (OF Q7))) 0)}):V0 R2 A (XR (.J0 t) (.J0 sl)) Q E s:=by
 generalize ha:Y_ 0 (OF Q7)=a at h1 h2;generalize hb:Sf Q7 (OF Q7)=b at h1 h2;have hbn:b<=Q7:=by rw[<-hb];cases hi using Y9<;>simp[Q1.HB,aJ0]
 have Y7:sizeOk (.V5 (AL vs a b).N8 0):=by
  show(AL vs a b).N8.L9<=XA;unfold AL;simp;have:XA=16777216:=O;exact ω16 ‹_› ‹_›
 obtain⟨os,Ug,UF,Vo⟩:=id hs;have hTs:aC (.J0 sl) "slice":=⟨os,Ug,UF⟩;have ht:=fO e;unfold XR
 try with_reducible refine z7 ?_
 first|refine S0 (E2 ?_)|skip
 refine S0 (lS0 b00 (by decide) ?_);refine S0 (iF (W2:=DA "__getitem__") b00 BS0
  (TC BS0 b00 entry_tuple_getitem ?_ (args_tuple_getitem _ _)))
 show V0 _ _ (v70.tupleItemsOf (.J0 t)>>=_) _ _ s;refine S0 (nT0 ht ?_);refine S0 (IR hTs ?_);have hsz2:(vs.wT:A2)=(Q7:A2):=by trivial
 refine S0 (ZJ0 hs pl pu ?_);rw[ha,hb];show V0 _ _ (if((a:A2)==0&&(1:A2)==1&&(b-a)==vs.wT)=I0 then _ else _) _ _ s;by_cases hw:((a:A2)==0&&(1:A2)==1&&(b-a)==vs.wT)=I0
 ·rw[w3 hw];have qt:a=0/\b-a=Q7:=by simpa using hw
  have hb':b=Q7:=by have:=qt.1;have:=qt.2;omega
  have cJ0:AL vs a b=vs:=by unfold AL;rw[qt.1,hb'];simp
  have q:=h1 cJ0;refine S0 (m:=v70.IU0 (.J0 t)) ?_;refine S0 (IR b00 (E2 ?_));exact S0 (KP (E2 ⟨_,O,E2 q⟩))
 ·rw[u3 hw];have pick:((P0.Ym (b-a)).UV λ(k:C0)=>JB[((a:A2)+(k:A2)*1).gR]?).N8=(AL vs a b).N8:=by
   have e1:(λ(k:C0)=>JB[((a:A2)+(k:A2)*1).gR]?)=λ k=>JB[a+k]?:=by
    funext k
    have:((a:A2)+(k:A2)*1).gR=a+k:=by exact(Gc _ _ _).Y3
    rw[J2]
   rw[e1];have:=pick_run JB a (b-a);rw[P0.filterMap_map]at J2;have e2:((λ x=>JB[x]?)∘λ x=>a+x)=λ k=>JB[a+k]?:=O;rw[e2]at J2;rw[J2];rfl
  rw[pick];first
   |exact S0 (m:=NZ _) (DH (E2 ⟨_,O,E2 h2⟩) Y7)
   |exact S0 (m:=NZ _) (DH (S0 (E2 (E2 ⟨_,O,E2 h2⟩))) Y7)
   |exact S0 (S0 (m:=NZ _) (DH (E2 (E2 ⟨_,O,E2 h2⟩)) Y7))
   |exact S0 (S0 (m:=NZ _) (DH (E2 ⟨_,O,E2 h2⟩) Y7))
theorem dJ0{h:O1}{l:PV}{vs:P0 K0}(r:A4 G h l vs)(a b:C0):A4 G h (z_ l a b) (AL vs a b):=SJ0 r a b
theorem K40{h:O1}{l lo hi:PV}{vs:P0 K0}{v w:K0}{q:PV}(r:A4 G h l vs)(rl:F3 G h lo v)(rh:F3 G h hi w)(e:ug l lo hi=E0 q):
  Q7<=60/\∃o1 o2,cR v o1/\cR w o2/\A4 G h q (AL vs (o1.HB 0 (OF Q7)) (o2.HB Q7 (OF Q7))):=by
 symm;unfold ug at e;obtain⟨hs,e⟩:=PC e;have hz:=yS r hs;have hl:=Jc r;cases h1:Wa (Y5 l) 0 lo with
 |H0=>
  ext;rw[h1]at e;contradiction
 |E0 a=>
  rw[h1]at e;cases h2:Wa (Y5 l) (Y5 l) hi with
  |H0=>
   ext;rw[h2]at e;contradiction
  |E0 b=>
   rw[h2]at e;obtain O:=H3 e;obtain⟨o1,p1,e1⟩:=OA0 rl h1;obtain⟨o2,p2,e2⟩:=OA0 rh h2;rw[<-hl]at e1 e2;ext;exact⟨hz,o1,o2,p1,p2,e1▸e2▸dJ0 r a b⟩
theorem eJ0{o lo hi:PV}{v vl vu:K0}{sl:H1}(g:J1 B A G s)(r:F3 G W0 o v)(rl:F3 G W0 lo vl)(rh:F3 G W0 hi vu)(hs:lj sl vl vu .H0){P:PV->K1->Prop}{X:C0->K1->Prop}(M0:(dE o lo hi R1).P1 P X):
  aY B A v (.J0 sl) (Po B RV F A G s P) (Px B F A G s X) s:=by
 cases o using P3 with
 |Q0 l=>
  symm;obtain⟨a,vs,n,O,z,e,DT⟩:=r;obtain⟨q,hq,hP⟩:=r9 (j6 M0);obtain⟨hz,o1,o2,p1,p2,rq⟩:=K40 DT rl rh hq;have hP:P (.Q0 q) R1:=hP;ext;refine⟨_,_,(fO e).wC,E80,bJ0 e hs p1 p2 hz (λ hw=>?_) ?_⟩
  ·rw[hw]at rq;exact .CB (R:=RV) (a:=.Q0 q) g ⟨a,vs,n,O,z,e,rq⟩ hP
  ·obtain⟨g',st,rt⟩:=g.G40 (tk:=X4) (k:=0) rq;exact .at (R:=RV) (wH st) g' rt hP
 |J0 j=>
  symm;obtain⟨hj,O⟩:=r;change(F1 (w5 32 (H10 lo hi (O3 j))) (λ r=>Q9 (.M1 r)) R1).P1 P X at M0;obtain⟨q,hq,hP⟩:=r9 (j6 M0);have ob:=GA j hj;cases ex:O3 j with
  |M1 l=>
   rw[ex]at ob hq;obtain⟨vs,n,e,DT⟩:=ob;obtain⟨hz,o1,o2,p1,p2,rq⟩:=K40 DT rl rh hq;ext;refine⟨_,_,(M9 e).wC,mr,YJ0 e hs p1 p2 hz ?_⟩;obtain⟨g',st,rt⟩:=g.WR (tk:=X4) (k:=0) rq;exact .at (R:=RV) (wH st) g' rt hP
  |_=>
   ext;rw[ex]at hq;contradiction
 |_=>exact B4
theorem fJ0{o:PV}{v:K0}{sl:H1}{t:O6}(g:J1 B A G s)(r:F3 G W0 o v)(hs:lj sl .H0 .H0 (.j0 (-1) t)){P:PV->K1->Prop}{X:C0->K1->Prop}(M0:(uP o R1).P1 P X):
  aY B A v (.J0 sl) (Po B RV F A G s P) (Px B F A G s X) s:=by
 cases o using P3 with
 |J0 j=>
  obtain⟨hj,O⟩:=r;change(F1 (w5 33 (I10 (O3 j))) (λ r=>Q9 (.M1 (QO r .B0))) R1).P1 P X at M0;obtain⟨q,hq,hP⟩:=r9 (j6 M0);have ob:=GA j hj;cases ex:O3 j with
  |M1 l=>
   rw[ex]at ob hq;obtain⟨vs,n,e,DT⟩:=ob;change(bif H5 l then E0 l else H0)=E0 q at hq;obtain⟨LD,hq⟩:=PC hq;obtain O:=H3 hq;have hz:=yS DT LD;refine⟨_,_,(M9 e).wC,mr,IS0 (M9 e) hs .H0 .H0 (.j0 (-1) t) (by trivial) ?_ (by simp;exact W6 hz (by decide))⟩;rw[krv_pick];obtain⟨g',st,rt⟩:=g.WR (tk:=X4) (k:=0) (Cj DT);have:=pN (R:=RV) (wH (F:=F) st) g' rt hP;simpa using J2
  |_=>rw[ex]at hq;contradiction
 |_=>exact B4
end
section
open PyProof.Rows
variable{B:Bs}{A:Around}{G:Gh}{s:Shared}{F:Addr->Prop}
theorem gJ0:∀l:P0 C0,Z7 l≠0->2^HJ<=Z7 l:=by
 intro l;induction l with
 |B0=>exact λ _=>A8 _
 |A0 c l ih=>
  intro h;have ht:=UY (c:=c) (n:=Z7 l) h;have ih:=ih ht;change pC c (Z7 l)≠0 at h;show 2^(HJ+1)<=pC c (Z7 l);unfold pC at h ⊢;rw[rS ht,JH]at h ⊢;cases hb:X6 c 1114112 with
  |R0=>rw[hb]at h;exact T3 O h
  |I0=>
   show _<=c+1+1114113*Z7 l;exact ω42 ‹_› O
theorem Ej{h:O1}{p:PV}{v:K0}(r:F3 G h p v){n:C0}(e:PM p=E0 n):∃x t,v=.Y0 x t/\LK<=n:=by
 cases p using P3 with
 |Y0 k=>
  obtain⟨h0,x,t,O,O⟩:=r;obtain O:=H3 e;refine⟨x,t,O,?_⟩;have:=gJ0 gZ h0;have h2:LK=gZ.L7:=by trivial
  exact(lw h0).B8 J2
 |AG k=>obtain⟨x,t,O,hl⟩:=r;obtain O:=H3 e;exact⟨x,t,O,hl⟩
 |_=>contradiction
theorem hJ0{a b:PV}{v w:K0}(g:J1 B A G s)(r:F3 G W0 a v)(r':F3 G W0 b w){c:C0}:U4 B RV F A (w5 c (Qp a b)) (Am .oU v w) G s:=by
 intro P X M0;obtain⟨p,hp,hP⟩:=r9 M0;unfold Qp at hp;cases h1:PM a with
 |H0=>rw[h1]at hp;contradiction
 |E0 x=>
  rw[h1]at hp;cases h2:PM b with
  |H0=>rw[h2]at hp;contradiction
  |E0 y=>
   rw[h2]at hp;change(bif O9 (x+y) 100000 then E0 (PV.AG (x+y))else H0)=E0 p at hp;obtain⟨h3,hp⟩:=PC hp;obtain O:=H3 hp;have hz:=i6 h3;obtain⟨s1,t1,O,l1⟩:=Ej r h1;obtain⟨s2,t2,O,l2⟩:=Ej r' h2;have Y7:XA=16777216:=O;refine add_str (λ t' tk=>bU (R:=RV) (a:=.AG (x+y)) g tk ⟨_,t',O,?_⟩ hP) (by exact ω49 ‹_› ‹_› ‹_› ‹_›);rw[C1.z80];exact uT ‹_› ‹_›
theorem iJ0:seqRepeat? (.U0 "tuple")=J4 (E0 (.Z4 "tuple.__mul__")):=by
 rfl
theorem jJ0:fillsNumberSlot (.U0 "tuple") "mul"=J4 R0:=
 xO.fillsNumberSlot_seq (id:="tuple.__mul__") (r:=E0 (.Z4 "tuple.__rmul__")) F.UT0.X9 (by decide +E7) F.slot_tuple_rmul.X9 (by decide +E7)
theorem kJ0(a:A2)(t:O6)(l:H1)(G5:L4 K0)(n:C0):
  K_ (KA.«int.__rmul__» ⟨[.j0 a t,.J0 l],[]⟩) (λ _ R s=>E3 l=E0 {O2:=.U0 "tuple",H2:=H0,L3:=.V5 G5 n,IC:=#[]}/\R (.ok (.U1 K0.notImplemented)) s):=
 .km λ K3 w A R s h=>by obtain⟨hp,g,d,tk,os⟩:=s;obtain⟨hl,h⟩:=h;wp_walk;exact⟨_,O,h⟩
theorem lJ0(l:H1)(G5:L4 K0)(n:C0)(t:O6):
  K_ (KA.«tuple.__mul__» ⟨[.J0 l,.j0 0 t],[]⟩) (λ _ R s=>E3 l=E0 {O2:=.U0 "tuple",H2:=H0,L3:=.V5 G5 n,IC:=#[]}/\
   (G5=#[]->R (.ok (.U1 (.J0 l))) s)/\R (.ok (.U1 (.J0 P2))) {s with A3:=F8 {O2:=.U0 "tuple",L3:=.V5 #[]}}):=
 .km λ K3 w A R s h=>by
  obtain⟨hl,h1,h2⟩:=h;have hT:aC (.J0 l) "tuple":=⟨_,hl,O⟩;show V0 _ _ (asIndex (.j0 0 t)>>=_) _ _ s;refine S0 (NN (a:=(0:A2)) O ?_);show V0 _ _ (if(DE ((0:A2)< -(2^63))||DE ((0:A2)≥2^63))=I0 then _ else _) _ _ s;refine S0 (nT0 ⟨_,hl,O,_,O⟩ ?_);show V0 _ _ (if(G5.WL||((0:A2)==1))=I0 then _ else _) _ _ s;by_cases he:G5.WL=I0
  ·rw[w3 (by rw[he];rfl)];refine S0 (m:=v70.IU0 (.J0 l)) ?_;refine S0 (IR hT (E2 ?_));exact S0 (KP (E2 ⟨_,O,h1 (by simpa using he)⟩))
  ·rw[u3 (by simp[he])];first
    |exact S0 (m:=NZ _) (DH (S0 (E2 (E2 ⟨_,O,h2⟩))) (by show(#[]:L4 K0).L9<=XA;simp))
    |exact S0 (m:=NZ _) (DH (E2 ⟨_,O,h2⟩) (by show(#[]:L4 K0).L9<=XA;simp))
theorem mJ0{h:O1}{l:PV}{vs:P0 K0}(r:A4 G h l vs):jE .B0 l=l:=uG (C:=λ l vs=>jE .B0 l=l) O (λ a r v q hv hr ih=>by rw[NJ0,ih]) r
theorem L40:XA=16777216:=O
theorem nJ0{a b:AO}{q:PV}(h:Rp a b=E0 q):∃l m,a=.M1 l/\b=.M1 m/\H5 l=I0/\H5 m=I0/\q=jE m l:=by
 cases a using EA with
 |M1 l=>
  cases b using EA with
  |M1 m=>
   have h:(bif H5 l then bif H5 m then E0 (jE m l)else H0 else H0)=E0 q:=h;obtain⟨h1,h⟩:=PC h;obtain⟨h2,h⟩:=PC h;exact⟨l,m,O,O,h1,h2,(H3 h).Y3⟩
  |_=>contradiction
 |_=>contradiction
theorem oJ0{a b:PV}{v w:K0}(g:J1 B A G s)(r:F3 G W0 a v)(r':F3 G W0 b w):U4 B RV F A (E10 a b) (Am .oU v w) G s:=by
 cases a using P3 with
 |j0 i=>
  cases b using P3 with
  |j0 j=>
   intro P X M0;obtain⟨t,O⟩:=r;obtain⟨u,O⟩:=r';have M0:P (.j0 (i+j)) R1:=M0;exact ii (bU (R:=RV) (a:=.j0 (i+j)) g _ ⟨_,O⟩ M0)
  |_=>exact BD
 |Q0 l=>
  cases b using P3 with
  |Q0 m=>
   intro P X M0;obtain⟨a,vs,n,O,z1,e1,r1⟩:=r;obtain⟨b,ws,n',O,z2,e2,r2⟩:=r';change((bif H5 l then bif H5 m then W1 (.Q0 (jE m l))else F2 16 else F2 16) R1).P1 P X at M0;cases h1:H5 l with
   |R0=>rw[h1]at M0;exact B4
   |I0=>
    cases h2:H5 m with
    |R0=>rw[h1,h2]at M0;exact B4
    |I0=>
     rw[h1,h2]at M0;have M0:P (.Q0 (jE m l)) R1:=M0;have l1:=yS r1 h1;have l2:=yS r2 h2;have T1:aC (.J0 a) "tuple":=(fO e1).wC;have T2:aC (.J0 b) "tuple":=(fO e2).wC;have ra:=Nc r1 r2;have cat:∀{S:xO.Spec},K_ (KA.«tuple.__add__» ⟨[.J0 a,.J0 b],[]⟩) S->S A (wants (Po B RV F A G s P) (Px B F A G s X)) s->V0 R2 A (Am .oU (.J0 a) (.J0 b)) (Po B RV F A G s P) (Px B F A G s X) s:=λ m h=>
      JU0 T1 T2 noFill_tuple_add seq_tuple_add Y8.slot_tuple_add Y8.entry_tuple_add (Y8.args_tuple_add_2 _ _) m h
     by_cases x1:vs=[]
     ·subst x1;obtain O:=y30 r1;exact cat (Oe.tuple___add___tuple_tuple_0 a #[] n b cZ n' O) ⟨e1,e2,Zz (R:=RV) (a:=.Q0 m) g ⟨b,ws,n',O,z2,e2,r2⟩ M0⟩
     ·by_cases x2:ws=[]
      ·subst x2;have hm:jE m l=l:=by
        obtain O:=y30 r2;exact mJ0 r1
       rw[hm]at M0;exact cat (Oe.tuple___add___tuple_tuple_1 a JB n b #[] n' (by simpa using x1) O) ⟨e1,e2,Zz (R:=RV) (a:=.Q0 l) g ⟨a,vs,n,O,z1,e1,r1⟩ M0⟩
      ·refine cat (Oe.tuple___add___tuple_tuple_2 a JB n b cZ n' (by simpa using x1) (by simpa using x2) (by simp[L40];exact nU ‹_› ‹_› O)) ⟨e1,e2,?_⟩;obtain⟨g',st,rt⟩:=g.G40 (tk:=X4) (k:=0) ra;have:=pN (R:=RV) (wH (F:=F) st) g' rt M0;simpa using J2
  |_=>exact BD
 |J0 i=>
  cases b using P3 with
  |J0 j=>
   intro P X M0;obtain⟨hi,O⟩:=r;obtain⟨hj,O⟩:=r';change(F1 (w5 17 (Rp (O3 i) (O3 j))) (λ l=>Q9 (.M1 l)) R1).P1 P X at M0;obtain⟨q,hq,hP⟩:=r9 (j6 M0);have oi:=GA i hi;have oj:=GA j hj;obtain⟨l,m,ei,ej,h1,h2,O⟩:=nJ0 hq;rw[ei]at oi;rw[ej]at oj;obtain⟨vs,n,e1,r1⟩:=oi;obtain⟨ws,n',e2,r2⟩:=oj;have l1:=yS r1 h1;have l2:=yS r2 h2;refine JU0 (M9 e1).wC (M9 e2).wC noFill_list_add seq_list_add Y8.slot_list_add Y8.entry_list_add (Y8.args_list_add_2 _ _)
    (Oe.list___add___list_list_0 _ JB n _ cZ n' (by simp[L40];exact nU ‹_› ‹_› O)) ⟨e1,e2,?_⟩
   obtain⟨g',st,rt⟩:=g.WR (tk:=X4) (k:=0) (Nc r1 r2);have:=pN (R:=RV) (wH (F:=F) st) g' rt hP;simpa using J2
  |_=>exact BD
 |_=>exact hJ0 g r r'
def vt:gK->tZ
 |.n6=> .oU|.w0=> .BG|.Ba=> .nP
theorem pJ0{op:gK}{a b:PV}{v w:K0}(g:J1 B A G s)(r:F3 G W0 a v)(r':F3 G W0 b w):U4 B RV F A (binop op a b) (Am (vt op) v w) G s:=by
 cases op using gK.W9 with
 |n6=>exact oJ0 g r r'
 |w0=>
  cases a using P3 with
  |j0 i=>
   cases b using P3 with
   |j0 j=>
    intro P X M0;obtain⟨t,O⟩:=r;obtain⟨u,O⟩:=r';have M0:P (.j0 (i-j)) R1:=M0;exact eM.sub_int (bU (R:=RV) (a:=.j0 (i-j)) g _ ⟨_,O⟩ M0)
   |_=>exact BD
  |_=>exact BD
 |Ba=>
  cases a using P3 with
  |Q0 l=>
   cases b using P3 with
   |j0 j=>
    cases j using SL with
    |N4 k=>
     induction k using ML with
     |i9=>
      intro P X M0;obtain⟨a,vs,n,O,z1,e1,r1⟩:=r;obtain⟨u,O⟩:=r';have M0:P (.Q0 .B0) R1:=M0;have T1:aC (.J0 a) "tuple":=(fO e1).wC;refine wpAny_binaryOp_repeat_ref (T:="tuple") (U:="int") (by decide) T1 (λ s'=>vU0 s' _ u) jJ0 Y8.fills_int_mul Y8.oT0 iJ0 Y8.slot_int_index.X9
       (KR Y8.oT0 (vU0 s _ u) Y8.entry_int_rmul (Y8.args_int_rmul_2 _ _) (kJ0 _ u a JB n)
        ⟨e1,O,T1,KR Y8.UT0 T1 Y8.entry_tuple_mul (Y8.args_tuple_mul_2 _ _) (lJ0 a JB n u) ⟨e1,λ q=>?_,?_⟩⟩)
      ·have:vs=[]:=by simpa using q
       subst J2;exact Zz (R:=RV) (a:=.Q0 .B0) g ⟨a,[],n,O,z1,e1,O⟩ M0
      ·obtain⟨g',st,rt⟩:=g.G40 (l:=.B0) (vs:=[]) (tk:=X4) (k:=0) O;exact pN (R:=RV) (wH (F:=F) st) g' rt M0
     |c9 k=>exact BD
    |KB k=>exact BD
   |_=>exact BD
  |_=>exact BD
end
section
variable{B:Bs}{A:Around}{G:Gh}{s:Shared}{F:Addr->Prop}
structure M8(n:C0)(A:B6):Prop where
 nZ:C9=H0
 tT:YR+n+50<=VZ
 units:mL+8*n+500<=cP
theorem M8.cu{n:C0}(x:M8 n A):Cu A:=by have:=Go;show mL+100<cP;exact ω87 ‹_›
theorem M8.c9{n:C0}(x:M8 (n+1) A):M8 n A:=⟨q00,by have:=Ho;exact GP ‹_›,by have:=Go;omega⟩
theorem M8.RW{n:C0}{O0:o6}(x:M8 (n+1) A):M8 n (XN O0):=⟨q00,by have:=Ho;show YR+1+n+50<=_;exact ω40 ‹_›,by have:=Go;show mL+3+8*n+500<=_;omega⟩
theorem jZ{A':B6}(g:J1 B A G s)(h:A'.z70=VN):J1 B A' G s:=⟨FE,Ap,QB,gE,by rw[h];exact SJ⟩
theorem T5.Au{N0:o6}{D D':C1->Prop}{O0:PV}{h:O1}(x:T5 B N0 D O0 G h)(k:∀y,D y->D' y):T5 B N0 D' O0 G h:=
 ⟨f_ x.ns λ m hn hm=>⟨m,hn,λ y v h1 h2=>hm y v h1 λ d=>h2 (k y d)⟩,x.l6,x.Si,x.jU,x.TP,wf,vf,m00⟩
theorem qJ0{N0:o6}{L:y5}(EK:j9 N0 L)(f:C1×K0->Bf->X7 (kl Bf))(hf:∀n v u,f (n,v) u=(do jl N0 n v;J4 (.rW ⟨⟩)))(hF:∀b,C5 N0 L b->F b):
  ∀{p:PV}{dD:P0 (C1×K0)}{O0:PV}{s:D1}{Q:Bf->D1->Prop}{E},J1 B A G s->T5 B N0 D0 O0 G W0->S8 G W0 p dD->(∀x∈dD,w4 x.1=I0/\x6 L x.1=I0)->
   (∀s',Z2 B F G s G s'->J1 B A G s'->T5 B N0 D0 (ZJ O0 p) G T6->Q ⟨⟩ s')->V0 R2 A (Cf dD ⟨⟩ f) Q E s:=by
 intro p;induction p with
 |B0=>
  intro dD O0 s Q E g ER r ok h;cases r;exact E2 (h s (.L5 ..) g ER)
 |kv k v r _ ih=>
  intro dD O0 s Q E g ER rr ok h;obtain⟨x,u,q,e,h0,hx,hv,hr⟩:=rr;subst e;rw[JW,hf];obtain⟨o1,o2⟩:=ok (x,u) (TE ..);refine S0 (S0 (aV EK g ER o1 o2 hv hF λ s' st g' yt=>E2 ?_));refine ih g' (yt.Au ?_) (yz xT DX hr) (λ y hy=>ok y (yB _ hy)) λ N7 QA qJ rJ0=>h N7 (WN QA) qJ ?_
  ·exact λ y hy=>hy.1
  ·subst hx;exact rJ0
 |_=>exact λ _ _ r=>VI
theorem sJ0:∀(L:y5)(n:C0)(M3:P0 (C1×H1)){x:C1},((∃y∈L,y.1=x/\(y.2==FR)=I0)\/∃c,M3.X9 x=E0 c)->∃c,(Tx n L M3).X9 x=E0 c:=by
 intro zq;induction zq with
 |B0=>
  intro n M3 x h;rcases h with⟨_,hy,_⟩|h
  ·contradiction
  ·exact h
 |A0 pq r ih=>
  intro n M3 x h;obtain⟨W2,aL⟩:=pq;unfold Tx;cases hk:aL==FR with
  |I0=>
   refine ih _ _ ?_;rcases h with⟨y,hy,e,gO⟩|⟨c,hc⟩
   ·rcases dA hy with O|hy
    ·have e:W2=x:=e;subst e;exact .L2 ⟨n,by simp⟩
    ·exact .S2 ⟨y,hy,e,gO⟩
   ·by_cases e:x=W2
    ·subst e;exact .L2 ⟨n,by simp⟩
    ·exact .L2 ⟨c,by rw[BR,show(x==W2)=R0 by simpa using e];exact hc⟩
  |R0=>
   refine ih _ _ ?_;rcases h with⟨y,hy,e,gO⟩|h
   ·rcases dA hy with O|hy
    ·have gO:(aL==FR)=I0:=gO;rw[hk]at gO;contradiction
    ·exact .S2 ⟨y,hy,e,gO⟩
   ·exact .L2 h
theorem tJ0(g:J1 B A G s){a:H1}(h:E3 a=H0):¬u9 G a:=Ap.WI0 h
theorem SN(g:J1 B A G s){a:H1}(ha:P2<=a):¬u9 G a/\PG a=H0/\a∉CG:=by
 have h1:E3 a=H0:=NE ha;have h2:PG a=H0:=NE (W6 g.Wt ha);exact⟨tJ0 g h1,h2,λ q=>by obtain⟨o,e⟩:=Sn a q;rw[h2]at e;contradiction⟩
theorem M40{fd:LH}{L:y5}{a:H1}{dD:P0 (C1×K0)}{p:PV}{qB:C1}{Q:o6->D1->Prop}{E}(g:J1 B A G s)(hk:fd.ST=.pF)(hg:rn=HP)(hb:Co=aW)
  (iR:B.Ji HX)(hL:wS=L)(qN:∀x,D9 x≠E0 .i7)(sW:∀x,D9 x=E0 .l6->∃y∈L,y.1=x/\(y.2==FR)=I0)(r:S8 G W0 p dD)(ok:∀x∈dD,w4 x.1=I0/\x6 L x.1=I0)
  (h:∀N0 s',j9 N0 L->bW=E0 LA->N0.UG=E0 a->BP≠.pW->Z2 B N2 G s G s'->J1 B A G s'->T5 B N0 D0 (ZJ .B0 p) G T6->
   (∃o,OL LA=E0 o/\F4=.U0 "frame"/\∀vs,F9≠.R5 vs)->(∀b,C5 N0 L b->E3 b=H0)->Q N0 s'):
  V0 R2 A (ub GT rn [] dD qB (E0 a) HX H0 Co) Q E s:=by
 unfold ub;show V0 _ _ (alloc {O2:=.U0 "frame",L3:=.H2 #[]}>>=_) _ _ _;refine S0 (ZU0 ?_);refine S0 (VT0 _ (λ W2 aL rT=>by cases hkc:aL==FR<;>simp[hkc]) _ _ _ _ ?_);have ET:=KU0 wS (F8 {O2:=.U0 "frame",L3:=.H2 #[]}) (P2+1) [] ⟨λ _ _ hm=>(nomatch hm),aU0⟩ (by rw[TD];exact A8 _);rw[TD]at ET;rw[show({s with A3:=F8 {O2:=.U0 "frame",L3:=.H2 #[]}}:D1).A3.SC.L9=P2+1 from TD ..];generalize UF:Tx (P2+1) wS []=rT at ET ⊢;generalize cV:OV0 (F8 {O2:=.U0 "frame",L3:=.H2 #[]}) wS=hp at ET ⊢;have kp:∀b o,E3 b=E0 o->Tf b=E0 o:=λ b o e=>cV▸cb _ _ _ _ (rA _ _ _ _ e);obtain⟨g1,D2⟩:=g.rB (h':=hp) (tk:=X4) kp;have Bu:Tf P2=E0 {O2:=.U0 "frame",L3:=.H2 #[]}:=cV▸cb _ _ _ _ (BA _ O);have hNs:hp.Ns P2 (λ _=>H0):=cV▸(O1.Ns.OB W0 (.U0 "frame")).tW (cb _ _)
 let N0:o6:={Z8:=GT,Wp:=P2,YE:=rn,rT:=rT,qB:=qB,UG:=E0 a,YA:=HX,DD:=E0 P2,lF:=Co}
 have EK:j9 N0 L:=⟨hk,λ x e=>by show fa x=_;rw[hL];exact e,λ x e=>by show fa x=_;rw[hL];exact e,λ x e=>T3 e (qN x),λ x e=>by show fa x=_;rw[hL];exact e,hg,hb,λ e=>qN "__class__" (by rw[<-hL];exact e)⟩;have kOf:∀x,zA x=D9 x:=λ x=>by show fa x=_;rw[hL]
 have Dz:∀x c,uR0 x=E0 c->P2+1<=c/\hp.WW c H0:=λ x c e=>⟨(kV0 x c (du e)).2,(kV0 x c (du e)).1⟩;have ER:T5 B N0 D0 .B0 G hp:=⟨⟨_,hNs,λ x v _ _ _ e=>(by rw[Es]at e;contradiction)⟩,λ x v _ _ e=>(by rw[Es]at e;contradiction),λ x c e=>⟨_,(Dz x c e).2⟩,λ x e=>by
   rw[kOf]at e;obtain⟨y,hy,O,gO⟩:=sW x e;show∃c,uR0 y.1=E0 c;rw[<-UF,hL];exact sJ0 L _ [] (.S2 ⟨y,hy,O,gO⟩),
  λ x y c e e'=>name_of_addr ET.TP (du e) (du e'),?_,λ x c e=>?_,iR⟩
 ·have hF:∀b,C5 N0 L b->E3 b=H0:=λ b hb=>by
   rcases hb with O|⟨x,_,hx⟩
   ·exact NE (A8 _)
   ·exact NE (j80 (Dz x b hx).1)
  refine S0 (qJ0 (s:={s with A3:=hp}) EK _ (λ _ _ _=>O) (F:=C5 N0 L) (λ _ q=>q) g1 ER (yz D2.le Z_ r) ok λ s' QA g' yt=>E2 ?_);have I2:=(bC (F':=C5 N0 L) (λ _ q=>P6)).V2 QA;refine h N0 s' EK O O (by show fd.ST≠.pW;rw[hk];decide) (I2.SG λ b hb=> .L2 (hF b hb)) g' yt ?_ hF;exact QA.k3.fr _ _ Bu O (λ vs q=>nomatch q)
 ·exact SN g (A8 _)
 ·exact SN g (j80 (Dz x c e).1)
end
section
variable{B:Bs}{A:Around}{G:Gh}{s:Shared}{F:Addr->Prop}
def HS(hf h h':O1):Prop:=∀b o,B3 b=E0 o->∃o',C3 b=E0 o'/\vK o o'/\(zO b=H0\/o'=o)
theorem HS.L5(hf h:O1):HS hf h h:=λ b o e=>⟨o,e,.L5 o,.L2 O⟩
theorem HS.eq{hf h h':O1}(x:HS hf h h'){b:H1}{o:C4}(e:B3 b=E0 o)(h1:F4≠.U0 "frame")(h2:F4≠.U0 "traceback"):C3 b=E0 o:=by
 obtain⟨o',e',q,_⟩:=x b o e;rw[q.eq h1 h2]at e';exact e'
theorem HS.k3{hf h h':O1}(x:HS hf h h'):UE h h':=by
 refine⟨λ b o ts e c d=>?_,λ b o e c d=>?_,λ b o e c=>zf e (by rw[c.1];decide) (by rw[c.1];decide)⟩
 ·symm;obtain⟨o',e',q,_⟩:=x b o e;rcases q with O|⟨c',_⟩|⟨_,us,us',hd,O,hz⟩
  ·ext;exact⟨_,ts,e',c,d,O⟩
  ·ext;rw[c]at c';exact T3 c' (by decide)
  ·ext;rw[d]at hd;cases hd;exact⟨_,us',e',c,O,hz⟩
 ·symm;obtain⟨o',e',q,_⟩:=x b o e;rcases q with O|⟨_,sl,O⟩|⟨c',_⟩
  ·ext;exact⟨_,e',c,d⟩
  ·ext;exact⟨_,e',c,d⟩
  ·ext;rw[c]at c';exact T3 c' (by decide)
theorem J1.hs(g:J1 B A G s){h':O1}{tk:O6}(x:HS RH W0 h'):J1 B A G {s with A3:=h',y3:=tk}/\Z2 B N2 G s G {s with A3:=h',y3:=tk}:=by
 have k3:=x.k3;have Q0:zB E5 W0 h':=λ b vs n _ e=>zf e (by simp) (by simp);obtain⟨l,hl,hf⟩:=SJ;refine⟨⟨FE,⟨QG,λ i hi=>?_,XL,vC,λ a ha=>⟨(xD a ha).1,by obtain⟨o,e⟩:=(xD a ha).2;exact by obtain⟨o',e',_⟩:=x a o e;exact⟨o',e'⟩⟩⟩,λ b o e h1 h2 h3=>zf (QB b o e h1 h2 h3) h2 h3,
  qR _ _ (λ b o e z=>?_) gE,l,hl,Pf k3⟩,⟨h',tk,O⟩,.L5 G,λ b q=> .S2 q,λ b o e=>by obtain⟨o',e',_⟩:=x b o e;exact⟨o',e'⟩,λ b o e _ _ _=>by obtain⟨o',e',q,_⟩:=x b o e;exact⟨o',e',q⟩,Q0,k3⟩
 ·by_cases ha:O3 i=.K4
  ·rw[ha];trivial
  ·obtain⟨ob,e,nf⟩:=(GA i hi).e9 ha;refine(GA i hi).D5 (.L5 G) Q0 k3 (λ jM e'=>zf e' ?_ ?_) λ d l _ q=>⟨l,q⟩
   ·rw[e]at e';obtain O:=H3 e';exact λ q=>nf (.L2 (.S2 q))
   ·rw[e]at e';obtain O:=H3 e';exact λ q=>nf (.L2 (.L2 (.S2 q)))
 ·rcases z with z|z
  ·exact zf e (B.Cs _ gE b z o e).1 (B.Cs _ gE b z o e).2
  ·rcases z with z|⟨y,q⟩
   ·exact zf e (by rw[z.1];decide) (by rw[z.1];decide)
   ·obtain⟨o',e',_,z⟩:=x b o e;rcases z with z|z
    ·rw[z]at q;contradiction
    ·rw[<-z];exact e'
theorem J1.ZA0{h':O1}{tk:O6}{i:C0}(g:J1 B A G s)(hi:i<I3)(hn:O3 i≠.K4)
  (k:∀b o,b≠Y2 i->E3 b=E0 o->C3 b=E0 o)(ho:vE B G h' (Y2 i) (O3 i)):
  J1 B A G {s with A3:=h',y3:=tk}/\Z2 B N2 G s G {s with A3:=h',y3:=tk}:=by
 obtain⟨ob,zR,Ca⟩:=(GA i hi).e9 hn;have hZ:∀b∈CG,b≠Y2 i:=λ b hb q=>by
  obtain⟨o,e⟩:=Sn b hb;rw[q,vC i hi hn]at e;contradiction
 have ne:∀{b jM},E3 b=E0 jM->wK jM.O2->b≠Y2 i:=λ e f q=>by rw[q,zR]at e;obtain O:=H3 e;exact Ca f
 have k3:UE W0 h':=⟨λ b o ts e c d=>⟨o,ts,k b o (ne e (.L2 (.L2 (.S2 c)))) e,c,d,O⟩,λ b o e c d=>⟨o,k b o (ne e (.L2 (.S2 c))) e,c,d⟩,λ b o e c=>k b o (ne e (.L2 (.L2 (.L2 (.S2 c.1))))) e⟩;have Q0:zB E5 W0 h':=λ b vs n _ e=>k _ _ (ne e (.S2 O)) e;obtain⟨l,hl,hf⟩:=SJ;have AE:∀b ob,E3 b=E0 ob->∃o',C3 b=E0 o':=λ b ob e=>by
  by_cases q:b=Y2 i
  ·subst q;obtain⟨jM,e',_⟩:=ho.e9 hn;exact⟨jM,e'⟩
  ·exact⟨ob,k _ _ q e⟩
 refine⟨⟨FE,⟨QG,λ j hj=>?_,XL,vC,λ a ha=>⟨(xD a ha).1,by obtain⟨o,e⟩:=(xD a ha).2;exact AE a o e⟩⟩,λ b o e h1 h2 h3=>k _ _ (λ q=>?_) (QB b o e h1 h2 h3),
  qR _ _ (λ b o e hz=>k _ _ (AB0 (hZ b) λ c=>Bo (λ c=>ne e (.L2 (.L2 (.L2 (.S2 c.1))))) λ zz z=>wL zz λ x q=>by rw[z,vC i hi hn]at q;contradiction) e) gE,l,hl,Pf k3⟩,⟨h',tk,O⟩,.L5 G,λ b x=> .S2 x,AE,λ b o e h1 _ _=>⟨o,k _ _ (λ q=>h1 ⟨i,hi,hn,SK⟩) e,.L5 o⟩,Q0,k3⟩
 ·by_cases q:j=i
  ·subst q;exact ho
  ·by_cases ha:O3 j=.K4
   ·rw[ha];trivial
   ·exact(GA j hj).D5 (.L5 G) Q0 k3 (λ ob e=>k _ _ (λ z=>q (QG j i hj hi ha hn z)) e) λ d l _ e=>⟨l,e⟩
 ·have:=vC i hi hn;rw[<-q,e]at J2;contradiction
theorem lm{hf h:O1}{T:H1}{o:C4}{ts:L4 K0}(bT:zO T=H0)(e:B3 T=E0 o)(hc:F4=.U0 "traceback")(hd:F9=.R5 ts)(k:C0)(v:K0):HS hf h (h.GF T (ZZ (·.FI k v))):=λ b ob hb=>by
 by_cases q:b=T
 ·subst q;rw[e]at hb;obtain O:=H3 hb;have aA:=TZ hd (·.FI k v);refine⟨_,BH _ e (ka aA),.L2 (.L2 ⟨hc,ts,ts.FI k v,hd,?_,by simp⟩),.S2 bT⟩;obtain⟨c,d,dt,sl⟩:=o;cases hd;rfl
 ·exact⟨ob,by rw[hM h _ (E9 q)];exact hb,.L5 ob,.L2 O⟩
theorem HS.IC{hf:O1}{S:P0 H1}{h h':O1}(x:O1.SlotsOnly S h h')(hS:∀b∈S,∃o,B3 b=E0 o/\F4=.U0 "frame"/\zO b=H0):HS hf h h':=λ b o e=>by
 by_cases hb:b∈S
 ·symm;obtain⟨o',e',hc,bL⟩:=hS b hb;rw[e]at e';obtain O:=H3 e';obtain⟨sl,hs⟩:=x.2.2 b o e;ext;exact⟨_,hs,.L2 (.S2 ⟨hc,sl,O⟩),.S2 bL⟩
 ·exact⟨o,by rw[x.2.1 b hb];exact e,.L5 o,.L2 O⟩
theorem mS.mem{hf h:O1}{l:P0 o6}(x:mS hf h l){b:H1}(hb:b∈l.UV (·.DD)):∃o,B3 b=E0 o/\F4=.U0 "frame"/\zO b=H0:=by
 symm;obtain⟨e,he,hf⟩:=mS0 hb;obtain⟨_,L,o,hL,ho,hc,_,bL⟩:=x e he;ext;rw[hf]at hL;obtain O:=H3 hL;exact⟨o,ho,hc,bL⟩
end
section
variable{B:Bs}{A:Around}{G:Gh}{s:Shared}{F:Addr->Prop}
theorem Du(g:J1 B A G s){i:C0}{e:K0}(x:rG G i e):∃cx c d vs,O3 i=.J8 cx c d/\e=.J0 (Y2 i)/\i<I3/\E3 (Y2 i)=E0 ⟨.J0 c,E0 (Y2 d),.R5 vs,#[]⟩/\lS RH cx W0 vs:=by
 obtain⟨hi,O,cx,c,d,hx⟩:=x;have ob:=GA i hi;rw[hx]at ob;obtain⟨vs,e,_,_,t⟩:=ob;exact⟨cx,c,d,vs,hx,O,hi,e,t⟩
theorem Eu{cx:I1}{h:O1}{vs:L4 K0}(t:lS RH cx h vs):vs[1]?=E0 .H0\/∃T oT ts,vs[1]?=E0 (.J0 T)/\B3 T=E0 oT/\oT.O2=.U0 "traceback"/\oT.L3=.R5 ts/\3<An/\PG T=H0:=t.2
def pM(B:Bs)(A:B6)(G:Gh)(s s':D1):Prop:=J1 B A G s'/\Z2 B N2 G s G s'
theorem pM.V2{M6 q9 JD:D1}(x:pM B A G M6 q9)(y:pM B A G q9 JD):pM B A G M6 JD:=⟨y.1,x.2.V2 y.2⟩
theorem YQ(g:J1 B A G s){i:C0}{e:K0}(x:rG G i e){fo:Q1 H1}{Q:S7->D1->Prop}{E}(h:∀s',pM B A G s s'->Q () s'){A':B6}:V0 R2 A' (Ge e fo) Q E s:=by
 obtain⟨cx,c,d,vs,hx,O,hi,he,ht⟩:=Du g x;rcases Eu ht with h1|⟨T,oT,ts,h1,hT,hc,hd,h3,bT⟩
 ·refine S0 (M7 he O h1 ?_);exact E2 (h s ⟨g,.L5 ..⟩)
 ·refine S0 (M7 he O h1 ?_);refine DR hT hd h3 (h _ (g.hs (tk:=X4) (lm bT hT hc hd 3 _)))
theorem uJ0{h:O1}{ts:L4 K0}{k:C0}(hk:k<An):∃x,ts[k]?=E0 x:=⟨ts[k],eh hk⟩
def qM(G:Gh)(h:O1)(i:C0):Prop:=∃(c:K0) (d:Q1 H1) (vs:L4 K0) (T:H1),B3 (Y2 i)=E0 ⟨c,d,.R5 vs,#[]⟩/\vs[1]?=E0 (.J0 T)
theorem bY(g:J1 B A G s){i:C0}{e:K0}(x:rG G i e){O0:o6}{VK:P0 o6}{L:H1}(y8:VN=E0 (O0::VK))(hf:O0.DD=E0 L){Q:S7->D1->Prop}{E}
  (h:∀s',pM B A G s s'->qM G T6 i->Q () s'){A':B6}(hA:A'.z70=VN){N0:o6}(WG:bW=E0 L):V0 R2 A' (ll e N0) Q E s:=by
 obtain⟨cx,c,d,vs,hx,O,hi,he,ht⟩:=Du g x;unfold ll;rw[WG];symm;have fD:∀(I8:K0)(PA0:I1)(M6:D1),J1 B A G M6->Z2 B N2 G s G M6->(∃vs,M6.FV (Y2 i)=E0 ⟨.J0 c,E0 (Y2 d),.R5 vs,#[]⟩/\lS RH cx c00 vs)->
   V0 R2 A' (do let a <-QA0 N0;let pl <-entryPlaceOf L PA0;let b <-EntryCells.newEntry I8 a .H0 (i5 L) .H0 pl;Pe (.J0 (Y2 i)) 1 b) Q E M6:=λ I8 PA0 M6 l_ Oc hv=>by
  obtain⟨vs₁,iO,Df⟩:=hv;obtain⟨l,hl,FO⟩:=l_.fr;rw[y8]at hl;obtain O:=H3 hl;have fo:V0 R2 A' (QA0 N0) (λ v s'=>v=.J0 L/\∃h',s'={M6 with A3:=h'}/\HS RH c00 h') E M6:=by
   unfold QA0;refine S0 (wpAny_frameEnvs (hA.V2 y8) ?_);have hdw:((O0::VK).PV0 λ x=>x.DD !=bW)=O0::VK:=by simp -u4 [P0.PV0,hf,WG]
   rw[hdw];refine S0 (S0 (wpAny_readyFrames_fun FO.fun λ j5 wD=>E2 ?_));rw[hf];exact E2 ⟨O,j5,O,HS.IC wD λ b hb=>mS.mem FO hb⟩
  refine S0 (U3 fo (λ v q9 zz=>vN zz λ ev zz=>f_ zz λ r7 es mB=>?_) λ _ _ z=>z);subst ev;subst es;obtain⟨g₂,vJ0⟩:=l_.hs (tk:=M6.y3) mB;refine S0 (wpAny_entryPlaceOf λ pl hpl=>?_);refine S0 (DH ?_ (hpl.sizeOk5 _ _ _ _ _));obtain⟨N40,eV⟩:=g₂.E40 {O2:=.U0 "traceback",H2:=H0,L3:=.R5 ([I8,.J0 L,.H0,i5 L,.H0]++(if wn then Ok 6 EF else pl)).N8} M6.y3;have rJ:=mB.eq iO (by simp -u4) (by simp -u4);have rM:=rA r7 {O2:=.U0 "traceback",H2:=H0,L3:=.R5 ([I8,.J0 L,.H0,i5 L,.H0]++(if wn then Ok 6 EF else pl)).N8} _ _ rJ;have hT:MW≠Y2 i:=UW (o9 rJ);have hnT:(r7.y6 {O2:=.U0 "traceback",H2:=H0,L3:=.R5 ([I8,.J0 L,.H0,i5 L,.H0]++(if wn then Ok 6 EF else pl)).N8}).W5 MW=E0 {O2:=.U0 "traceback",H2:=H0,L3:=.R5 ([I8,.J0 L,.H0,i5 L,.H0]++(if wn then Ok 6 EF else pl)).N8}:=BA r7 O;have IT:=TZ (o:=(⟨.J0 c,E0 (Y2 d),.R5 vs₁,#[]⟩:C4)) O (·.FI 1 (w6 MW));have me:=BH (ZZ (·.FI 1 (w6 MW))) rM (ka IT);have ob:=N40.Op i hi;rw[hx]at ob;obtain⟨_,_,KO,ZQ,_⟩:=ob;have m:=N40.ZA0 (h':=(r7.y6 {O2:=.U0 "traceback",H2:=H0,L3:=.R5 ([I8,.J0 L,.H0,i5 L,.H0]++(if wn then Ok 6 EF else pl)).N8}).GF (Y2 i) (ZZ (·.FI 1 (w6 MW)))) (tk:=M6.y3) hi (by rw[hx];simp -u4)
   (λ b o hb e=>by rw[hM _ _ (E9 hb)];exact e) (by
    rw[hx];refine⟨vs₁.FI 1 (.J0 MW),me,KO,ZQ,⟨by simpa -u4 using Df.1.1,λ q=>by simpa -u4 using Df.1.2 q⟩,.L2 ⟨MW,_,_,by simp -u4 [U8 (by decide:1<5) Df.1.1],(hM _ _ (E9 hT)).V2 hnT,O,O,by simp -u4 only[kF,P0.z80,EJ,qT];exact ω113,NE g₂.Wt⟩⟩)
  refine DR rM O (U8 (by decide:1<5) Df.1.1) (h _ ?_ ?_)
  ·exact⟨m.1,((Oc.V2 vJ0).V2 eV).V2 m.2⟩
  ·exact⟨_,_,_,MW,me,by simp -u4 [U8 (by decide:1<5) Df.1.1]⟩
 rcases Eu ht with h1|⟨T,oT,ts,h1,hT,hc,hd,h3,bT⟩
 ·ext;refine S0 (M7 he O h1 ?_);first
   |exact fD .H0 _ s g (.L5 ..) ⟨vs,he,ht⟩
   |exact S0 (E2 (fD .H0 _ s g (.L5 ..) ⟨vs,he,ht⟩))
 ·ext;refine S0 (M7 he O h1 ?_);obtain⟨x3,hx3⟩:=uJ0 (h:=W0) h3;refine S0 (M7 hT hd hx3 ?_);by_cases hq:(x3==i5 L)=I0
  ·rw[w3 hq];exact E2 (h s ⟨g,.L5 ..⟩ ⟨_,_,_,T,he,h1⟩)
  ·rw[u3 hq];symm;have hs:=lm bT hT hc hd 3 EF;obtain⟨l_,Oc⟩:=g.hs (tk:=X4) hs;have k:∃vs,(NL T (ZZ (·.FI 3 EF))).W5 (Y2 i)=E0 ⟨.J0 c,E0 (Y2 d),.R5 vs,#[]⟩/\lS RH cx (NL T (ZZ (·.FI 3 EF))) vs:=
    ⟨vs,hs.eq he (by simp -u4) (by simp -u4),hs.k3.HW0 ht⟩
   ext;first
    |exact S0 (DR hT hd h3 (fD (.J0 T) _ _ l_ Oc k))
    |exact DR hT hd h3 (fD (.J0 T) _ _ l_ Oc k)
    |exact S0 (S0 (DR hT hd h3 (E2 (fD (.J0 T) _ _ l_ Oc k))))
theorem O40(g:J1 B A G s){i:C0}{e:K0}(x:rG G i e){O0:o6}{VK:P0 o6}{L:H1}(y8:VN=E0 (O0::VK))(hf:O0.DD=E0 L){Q:S7->D1->Prop}{E}
  (h:∀s',pM B A G s s'->Q () s'):V0 R2 A (leaving O0 e) Q E s:=by
 unfold leaving;exact S0 (bY g x y8 hf (λ s' st _=>YQ st.1 x λ N7 QA=>h N7 (WN QA)) O hf)
end
section
variable{B:Bs}{A:Around}{G:Gh}{s:Shared}{F:Addr->Prop}
def VE(B:Bs)(N0:o6)(G:Gh)(h:O1):Fl->LJ->Prop
 |.W4 e,.W4=>T5 B N0 D0 e G h
 |.ZB e,.ZB=>T5 B N0 D0 e G h
 |.YB e,.YB=>T5 B N0 D0 e G h
 |.U1 v _,.U1 w=>F3 G h v w
 |_,_=>I6
structure bQ(B:Bs)(g:C0->Q1 PV)(cl:C0->C0)(a:C0)(p:Pm)(b:S)where
 o:C4
 fd:LH
 O4:P0 U5
 l9:PG a=E0 o
 Fj:a∉CG
 O2:F4=.U0 "function"
 L3:F9=.UG fd
 Gu:FB0=.vD O4
 YA:cS g cl 40 wS O4=b
 Hu:fd.ZN=[]
 aL:fd.ST=.pF
 co:GT.bd=R0
 gen:GT.Md=R0
 YE:rn=HP
 lF:Co=aW
 Iu:∀h,VD B h->h.Gy HX fd.JK
 zc:B.Ji HX
 Ju:∀x,fa x≠E0 .i7
 l6:∀x,fa x=E0 .l6->∃y∈wS,y.1=x/\(y.2==FR)=I0
 dD:∀{G:Gh}{s:D1}{L1 O0:PV}{K5:P0 K0},VD B W0->(∀a∈E5,PG a=H0)->k00 L1=E0 O0->A4 G W0 L1 K5->
  ∃bs,S8 G W0 O0 bs/\(∀x∈bs,w4 x.1=I0/\x6 wS x.1=I0)/\BindsTo s fd ⟨K5,[]⟩ bs
def sJ(B:Bs)(g:C0->Q1 PV)(cl:C0->C0)(n:C0)(E:B5):Prop:=
 ∀{A:B6}{G:Gh}{s:D1}{N0:o6}{L:y5}{O0:PV}{k:C0}{st:P0 U5},M8 n A->sG A N0 L->J1 B A G s->T5 B N0 D0 O0 G W0->
  U4 B (VE B N0) (C5 N0 L) A (E.vD (cS g cl k L st) O0) (jC st N0) G s
theorem J1.RW(g:J1 B A G s){N0:o6}{L:H1}(hk:BP≠.pW)(hf:bW=E0 L)(ho:∃o,E3 L=E0 o/\F4=.U0 "frame"/\∀vs,F9≠.R5 vs)(hb:PG L=H0):J1 B (XN N0) G s:=by
 obtain⟨l,hl,FO⟩:=SJ;obtain⟨o,e,c,d⟩:=ho;refine⟨FE,Ap,QB,gE,N0::l,by show VN.Y4 _=_;rw[hl];rfl,λ x hx=>?_⟩;rcases dA hx with O|hx
 ·exact⟨hk,L,o,hf,e,c,d,hb⟩
 ·exact FO x hx
theorem J1.Iy{A':B6}(g:J1 B A' G s){l:P0 o6}(h:VN=E0 l)(hs:mS RH W0 l):J1 B A G s:=⟨FE,Ap,QB,gE,l,h,hs⟩
theorem Gj{g:C0->Q1 PV}{cl:C0->C0}(BF:R7 B g){n:C0}{a:C0}{p:Pm}{b:S}(fo:bQ B g cl a p b)(C6:M8 (n+1) A)(gd:J1 B A G s){L1 O0:PV}{K5:P0 K0}
  (r:A4 G W0 L1 K5)(he:k00 L1=E0 O0){P:PV->K1->Prop}{X:C0->K1->Prop}
  (hb:∀{A':B6}{N0:o6}{s':D1},M8 n A'->sG A' N0 xI->J1 B A' G s'->T5 B N0 D0 (ZJ .B0 O0) G T6->Z2 B N2 G s G s'->
   V0 R2 A' (jC MX N0) (Po B (VE B N0) (C5 N0 xI) A' G s' λ f σ=>(∃v e,f=.U1 v e/\P v σ)\/∃e,f=.W4 e/\P .H0 σ) (Px B (C5 N0 xI) A' G s' X) s'):
  V0 R2 A (W7 (.J0 a) K5) (Po B RV F A G s P) (Px B F A G s X) s:=by
 obtain⟨bs,rb,Ku,bt⟩:=fo.dD EC (λ a ha=>(Un a ha).1) he r;have hro:=C6.tT;have ho:=EC a fo.o Io Do (by rw[Lf];decide) (by rw[Lf];decide);refine oZ (RS0 (by exact ω25 ‹_›) ho r00 fo.co fo.gen fo.Gu (fo.Iu _ EC) ?_);refine bt _ _ _ _ ?_;rw[fo.Hu];refine M40 (A:=pB) (L:=xI) (h90 O) fo.aL fo.YE fo.lF fo.zc O fo.Ju fo.l6 rb Ku λ N0 s' EK y8 hfu hmod st g' ER zR hF=>?_;refine⟨Z90 _ g'.eA,LU0 ?_⟩;have Pc:J1 B (XN N0) G s':=(jZ (A':=A) g' O).RW hmod y8 zR ye.2.1;obtain⟨l,hl,FO⟩:=gd.fr;have ES:sG (XN N0) N0 xI:=⟨EK,⟨LA,N0,l,by show VN.Y4 _=_;rw[hl];rfl,y8,y8⟩,C6.nZ⟩;have kU:∀{G' N7},Z2 B (C5 N0 xI) G s' G' N7->J1 B (XN N0) G' N7->Z2 B F G s G' N7/\J1 B A G' N7:=λ QA qJ=>by
  have I2:=(Dn (F':=C5 N0 xI) (λ _ q=>P6)).V2 QA;have S5:Z2 B F G s _ _:=I2.SG λ b hb=> .L2 (hF b hb);exact⟨S5,qJ.Iy hl (Hn S5.k3)⟩
 refine U3 (hb C6.RW ES Pc ER st) (λ f N7 ⟨G',fl,QA,qJ,rf,hp⟩=>?_) (λ e N7 ⟨G',i,QA,qJ,xi,hx⟩=>?_)
 ·obtain⟨S5,g3⟩:=kU QA qJ;rcases hp with⟨v,e,O,hp⟩|⟨e,O,hp⟩
  ·cases f using FH with
   |U1 w=>exact .at (R:=RV) S5 g3 rf hp
   |_=>exact OK
  ·cases f using FH with
   |W4=>exact .at (R:=RV) (a:=.H0) S5 g3 O hp
   |_=>exact OK
 ·refine O40 (A:=XN N0) qJ xi (O0:=N0) (VK:=l) (by show VN.Y4 _=_;rw[hl];rfl) y8 λ JD eV=>?_;obtain⟨sA,g4⟩:=kU (QA.V2 (eV.2.D5 λ _ q=>P6)) eV.1;exact⟨G',i,sA,g4,xi,hx⟩
theorem P40{g:C0->Q1 PV}{cl:C0->C0}(BF:R7 B g){n:C0}{ih:B5}(H:sJ B g cl n ih){a:C0}{p:Pm}{b:S}(fo:bQ B g cl a p b)(C6:M8 (n+1) A)(gd:J1 B A G s){L1:PV}{K5:P0 K0}
  (r:A4 G W0 L1 K5):U4 B RV F A (yg ih p b L1) (W7 (.J0 a) K5) G s:=by
 intro P X M0;obtain⟨O0,he,M0⟩:=r9 (j6 M0);refine Gj BF fo C6 gd r he λ qL ES Tg ER _=>?_;have AS:=H qL ES Tg ER (k:=40) (st:=MX);rw[fo.YA]at AS;refine U3 (AS _ _ (j6 M0)) (λ f N7 ⟨G',fl,QA,qJ,rf,hp⟩=>⟨G',fl,QA,qJ,rf,?_⟩) λ _ _ h=>h;cases fl using mf with
 |U1 v e=>exact .S2 ⟨v,e,O,hp⟩
 |W4 e=>exact .L2 ⟨e,O,hp⟩
 |ZB=>exact J00
 |YB=>exact J00
end
section
section
variable{B:Bs}{A:Around}{G:Gh}{s:Shared}{F:Addr->Prop}
def Qc:C1:="fresh"
structure cY(B:Bs)(C:C0)(k:Cl)where
 nm:C1
 q:C1
 N:H1
 bs:P0 K0
 sn:P0 C1
 w0:P0 K0
 UJ:Q1 I1
 dd:Q1 H1
 k0:Q1 K0
 k1:Q1 K0
 k2:Q1 K0
 k3:Q1 K0
 k5:Q1 K0
 mN:C1->Q1 K0
 l9:PG C=E0 (IP nm q C N bs [.U0 "object"] I0 sn w0 R0 UJ dd k0 k1 k2 k3 k5 "object.__new__")
 Fj:C∉CG
 ns:∀h,VD B h->aH N mN
 iP:∀x,vc x≠0->H4 (vc x) NI=H0->mN x=H0
 Fb:∀x a,vc x≠0->H4 (vc x) NI=E0 (.Z0 a)->mN x=E0 (.J0 a)/\a∉CG/\∃o,PG a=E0 o/\F4=.U0 "function"
 ga:mN "__getattribute__"=H0
 gh:mN "__getattr__"=H0
 sa:mN "__setattr__"=H0
 vZ:mN "__init__"=E0 (.J0 VP)/\VP∉CG/\∃o,PG VP=E0 o/\F4=.U0 "function"
 R6:∀a,H4 wX NI=E0 (.Z0 a)->∃K:Frag,(∀h,VD B h->K.In h)/\i90 K C=I0/\OU K (.J0 C) Qc=E0 (E0 (.J0 a))/\aA0 K (.J0 a)=E0 (.U0 "function")/\
  j90 K (.J0 a) "__get__"=E0 (E0 (.Z4 "function.__get__"))/\RA0 K (.J0 a)=E0 R0/\OU K (.J0 C) "__getattribute__"=E0 (E0 (.Z4 "object.__getattribute__"))/\OU K (.J0 C) "__getattr__"=E0 H0
def xE:Prop:=∀x,kD x=I0->MA (.U0 "object") x=J4 H0
def XD(B:Bs)(T:jI):Prop:=∀c k,PF c=.O2 k->MI=R0->Ay (cY B c k)
theorem Lu{x:C1}(h:kD x=I0):vc x≠0:=by
 unfold kD at h;simp -u4 only[N5,yO]at h;exact tA h.2
theorem Mu{T:jI}{c:C0}{k:Cl}(h:DQ T c=E0 k):PF c=.O2 k/\MI=R0:=by
 unfold DQ at h;generalize e:PF c=t at h ⊢;cases t using iZ with
 |O2 k'=>
  cases hk:k'.cq with
  |I0=>have h:(bif k'.cq then H0 else E0 k')=E0 k:=h;rw[hk]at h;contradiction
  |R0=>have h:(bif k'.cq then H0 else E0 k')=E0 k:=h;rw[hk]at h;obtain O:=H3 h;exact⟨O,hk⟩
 |_=>contradiction
theorem Nu{T:jI}{c x:C0}(h:SO T c x=I0):∃k,DQ T c=E0 k/\H4 x NI=H0:=by
 unfold SO at h;generalize DQ T c=o at h ⊢;cases o using Y9 with
 |H0=>contradiction
 |E0 k=>
  refine⟨k,O,?_⟩;have h:(match H4 x NI with|H0=>I0|_=>R0)=I0:=h;generalize H4 x NI=q at h ⊢;cases q using Y9 with
  |H0=>rfl
  |E0 _=>contradiction
theorem Q40{T:jI}{c x a:C0}(h:xX T c x=E0 a):∃k,DQ T c=E0 k/\H4 x NI=E0 (.Z0 a):=by
 unfold xX at h;generalize DQ T c=o at h ⊢;cases o using Y9 with
 |H0=>contradiction
 |E0 k=>
  refine⟨k,O,?_⟩;have h:(match H4 x NI with|E0 (.Z0 a)=>E0 a|_=>H0)=E0 a:=h;generalize H4 x NI=q at h ⊢;cases q using Y9 with
  |H0=>contradiction
  |E0 p=>
   cases p using P3 with
   |Z0 b=>obtain O:=H3 h;rfl
   |_=>contradiction
section
variable{c:Nat}{k:Cl}(X:cY B c k)
include X
theorem cY.n8(g:J1 B A G s):E3 c=E0 (IP X.nm X.q c X.N X.bs [.U0 "object"] I0 X.sn xn R0 X.UJ X.dd X.k0 X.k1 X.k2 X.k3 X.k5 "object.__new__"):=QB _ _ X.l9 X.Fj (by simp -u4) (by simp -u4)
end
structure Ou(G:Gh)(s:D1)(i c d:C0)(l:PV)(U2:P0 (C1×K0))(o:C4):Prop where
 lt:i<I3
 u7:E3 (Y2 i)=E0 (wZ c (Y2 d))
 ltd:d<I3
 od:E3 (Y2 d)=E0 o
 R40:F4=.U0 "dict"
 ns:W0.Fm (Y2 d) (rF U2)
 Ix:(bN (·.1)).GD
 rel:S8 G W0 l U2
 ne:Y2 d≠Y2 i
 di:d≠i
theorem Ez(g:J1 B A G s){i c d:C0}(hi:i<I3)(hx:O3 i=.u7 c d){l:PV}(hd:O3 d=.V6 l):∃U2 o,Ou G s i c d l U2 o:=by
 symm;have ob:=GA i hi;rw[hx]at ob;obtain⟨e,KO,_⟩:=ob;have od:=GA d KO;rw[hd]at od;obtain⟨U2,o,eo,hc,hn,nd,r⟩:=od;ext;have di:d≠i:=λ q=>by subst q;rw[hx]at hd;contradiction
 exact⟨U2,o,hi,e,KO,eo,hc,hn,nd,r,λ q=>di (QG d i KO hi (by rw[hd];simp -u4) (by rw[hx];simp -u4) q),di⟩
theorem Ou.I{i c d:C0}{l:PV}{U2:P0 (C1×K0)}{o:C4}(R:Ou G s i c d l U2 o):W0.Inst (Y2 i) c (rF U2):=
 ⟨_,Jg,O,λ _=>by simp -u4,.L2 ⟨_,O,R.ne,R.ns⟩⟩
theorem wJ0{h:O1}{a:H1}{m:C1->Q1 K0}{o:C4}(x:TU a m)(e:B3 a=E0 o)(W2:C1):lookIn W2 o=E0 (m W2):=by
 obtain⟨o',es,ep,e',d,sk,_,f⟩:=x;rw[e]at e';obtain O:=H3 e';have Ro:es.XE.K4 (·.Qm)=R0:=by
  rw[u80];intro e he;obtain⟨n,t,h⟩:=sk e (by simpa -u4 using he);simp -u4 [QN.Qm,h]
 unfold lookIn;rw[d];have hf:=f W2;unfold Sm at hf;dsimp only;rw[<-hf];obtain⟨l⟩:=es;have xJ0:l.K4 (·.Qm)=R0:=Ro;unfold bA0;simp -u4 only[WT0];cases hx:l.find? (·.T7.Fz W2)with
 |H0=>rw[xJ0];simp
 |E0 e=>simp
theorem Pu{h:O1}{p:PV}{v:K0}(r:F3 G h p v):QV0 v=J4 v:=by
 cases p using P3 with
 |H0=>cases r;rfl
 |N3=>cases r;rfl
 |j0=>obtain⟨_,O⟩:=r;rfl
 |Y0=>obtain⟨_,_,_,O,_⟩:=r;rfl
 |AG=>obtain⟨_,_,O,_⟩:=r;rfl
 |Q0=>obtain⟨_,_,_,O,_⟩:=r;rfl
 |J0=>obtain⟨_,O⟩:=r;rfl
 |Z0=>cases r;rfl
 |ty i=>obtain⟨_,r⟩:=r;revert r;cases I5 i<;>(intro r;obtain⟨_,_,_,O,_⟩:=r;rfl)
 |wr i=>obtain⟨_,r⟩:=r;revert r;cases I5 i<;>(intro r;obtain⟨_,_,_,O,_⟩:=r;rfl)
 |lC i=>obtain⟨_,r⟩:=r;obtain⟨_,_,_,O,_⟩:=r;rfl
 |B0=>exact VI
 |A0=>exact VI
 |kv=>exact VI
theorem yJ0{T:jI}(CT:XD B T)(ON:xE){x:C1}(hx:kD x=I0){o:PV}{v:K0}{ex:I1}(g:J1 B A G s)(r:F3 G W0 o v):U4 B RV F A (pt T o (vc x)) (ax v x ex) G s:=by
 have uI:=Lu hx;intro P X M0;cases o using P3 with
 |J0 i=>
  symm;obtain⟨hi,O⟩:=r;change(M10 T (vc x) (.J0 i) (O3 i) R1).P1 P X at M0;cases ei:O3 i with
  |u7 c d=>
   rw[ei]at M0;change(L10 T c (vc x) (.J0 i) (O3 d) R1).P1 P X at M0;cases ed:O3 d with
   |V6 l=>
    rw[ed]at M0;obtain⟨U2,od,R⟩:=Ez g hi ei ed;change((match H4 (vc x) l with|E0 v=>bif SO T c (vc x)then W1 v else F2 35|H0=>K10 T (vc x) (.J0 i) (.u7 c 0)) R1).P1 P X at M0;rcases vS uI Gz with⟨q1,q2⟩|⟨p,u,q1,q2,ru⟩
    ·rw[q1]at M0;change((bif Y1 (vc x) wX then F1 (w5 34 (xX T c (vc x))) (λ a=>Q9 (.bm a (.J0 i)))else F2 34) R1).P1 P X at M0;obtain⟨hf,M0⟩:=EG M0;have Wo:=L6 hf;have xf:x=Qc:=cO (Wo.V2 (show wX=vc Qc by decide +E7)) uI;obtain⟨a,ha,hP⟩:=r9 (j6 M0);obtain⟨k,hk,hm⟩:=Q40 ha;obtain⟨ke,kx⟩:=Mu hk;obtain⟨X'⟩:=CT c k ke kx;rw[Wo]at hm;obtain⟨K,kin,h1,h2,h3,h4,h5,h6,h7⟩:=X'.R6 a hm;have KI:=kin _ QB;subst xf;have IA:InstAt W0 (Y2 i) (wZ c (Y2 d)) c (E0 od):=⟨Jg,O,O,R.od⟩;ext;refine get_bind KI IA h6 (findObj_fn h1 h2 h4 h5 (by decide +E7) (by rw[wJ0 R.ns R.od,q2])) h7 ?_;refine oZ (fn_get (s:={s with y3:=X4+1}) KI h3 (RV0 O ?_));obtain⟨g',st⟩:=g.y6 (o:=.bm a (.J0 i)) (ob:=MV0 (.J0 a) (.J0 (Y2 i))) (tk:=X4+1) ⟨.J0 (Y2 i),BA _ O,⟨FW hi,G6 w6 (u3 (WC hi)).Y3⟩⟩;exact pN (R:=RV) (a:=.J0 I3) (wH st) g' ⟨rD _,G6 w6 (w3 O).Y3⟩ hP
    ·rw[q1]at M0;change((bif SO T c (vc x)then W1 p else F2 35) R1).P1 P X at M0;obtain⟨hm,M0⟩:=EG M0;obtain⟨k,hk,hl⟩:=Nu hm;obtain⟨ke,kx⟩:=Mu hk;obtain⟨X'⟩:=CT c k ke kx;obtain⟨hh,gg,dd,tt,os⟩:=s;ext;exact SV0 (EX g) (uW _ QB) Hz (K00 x uI hl) (ON x hx) R.I q2 (Pu ru) (bU (R:=RV) g _ ru M0)
   |_=>
    ext;rw[ed]at M0;exact B4
  |_=>
   ext;rw[ei]at M0;exact B4
 |_=>exact B4
end
end
section
set_option linter.unusedSimpArgs false
section
theorem Qu{M:UB}{A:B6}{s:D1}{a:H1}{m:C1->Q1 K0}{W2:C1}{v:K0}{Q:S7->D1->Prop}{E:K0->D1->Prop}(hn:W0.Fm a m)
  (h:∀h',Ze a (λ x=>if x=W2 then E0 v else m x)->TA a W0 h'->(∀o,E3 a=E0 o->∃o',C3 a=E0 o'/\RK=F4)->Q () {s with A3:=h',y3:=X4+1}):
  V0 M A (xy a W2 v) Q E s:=by
 intro Γ p Sg;have T7:=wpAny_nsSet1 (M:=M) (A:=A) (E:=E) (Q:=λ _ s'=>T6.Fm a (λ x=>if x=W2 then E0 v else m x)/\TA a W0 T6) (W2:=W2) (v:=v) hn (λ h' h1 h2=>⟨h1,h2⟩) Γ p Sg;rw[W30 hn.ns]at T7 ⊢;obtain⟨k0,k1,k2⟩:=T7;refine⟨k0,h _ k1 k2 λ o e=>?_⟩;obtain⟨o',_,_,e',_⟩:=id k1;refine⟨o',e',?_⟩;have e1:=(dq e').1;have e2:=(dq e).1;have:(NL a (td W2 (ib M.O5 W2) (.Y0 W2 X4) v)).SC[a]?=E0 (td W2 (ib M.O5 W2) (.Y0 W2 X4) v o):=by
  generalize W0=hp at e2 ⊢;cases hp;simp only[O1.GF,CT0,mW];simp only at e2;rw[e2];rfl
 rw[J2]at e1;obtain O:=H3 e1;exact V30 ..
section
variable{prog:Program}{w:World}{A:Around}{E:Value->Shared->Prop}{h:Heap}{g:Array GenState}{d:Drawn}{t:Nat}{os:OsState}
variable{nm q:Str}{C N x dx:Addr}{bs bm:List Value}{sn:List Str}{sub:List Value}{ab:Bool}{col:Option Bool}{dd:Option Addr}{k0 k1 k2 k3 k5:Option Value}{Bs newId sa owner:String}
 {mN m:Str->Option Value}{name:Str}{v:Value}{o:Obj}
theorem zJ0{tk:O6}{Q:gH->D1->Prop}{ns:P0 C1}(SF:a90 Bs bm sa Iz)
  (hC:B3 C=E0 (IP nm q C N bs bm I0 sn w0 ab UJ dd k0 k1 k2 k3 k5 newId))(hn:aH N mN)(Vg:mN W2=H0)
  (hB:MA (.U0 Bs) W2=J4 H0)(hx:B3 x=E0 o)(hc:F4=.J0 C)(Wg:mU=E0 dx)(XG:TU dx m)
  (hq:∀h' MD,Ze dx (λ y=>if y=W2 then E0 v else m y)->TA dx h h'->(∀o,B3 dx=E0 o->∃o',C3 dx=E0 o'/\RK=F4)->Q (.KD (.U1 .H0)) ⟨h',g,d,MD,os⟩)(hw:PU m ns)(Y7:IK<=XA):
  V0 (T4 K3 w) A (KA.«object.__setattr__» ⟨[.J0 x,.Y0 W2 tk,v],[]⟩) Q E ⟨h,g,d,t,os⟩:=by
 have Ef:=l90 (.J0 x);unfold KA.«object.__setattr__»
 repeat (first|rw[m90]|(rw[Tk,Ef])|(with_reducible refine wA hx ?_;rw[hc])|with_reducible refine Pt hC ?_|(with_reducible refine P80 hC hn SF.Ng hB ?_;rw[Vg])|wp_step)
 rw[Wg];refine E2 ?_;show V0 _ _ (KA.ObjectAttr.M90 dx (.Y0 W2 tk) W2 v) _ _ _;refine S0 (E2 (S0 (Qu XG λ h' AM hs YG=>?_)));obtain⟨oD,esD,epD,fV,Rc,gV⟩:=HA0 (PU.A0 W2 v hw);refine S0 (g80 fV (by rw[Rc];exact h80 (W6 gV (by rw[EJ];omega))) ?_)
 wp_walk
 exact hq h' _ AM hs YG
theorem AK0{tk:O6}{R:tL->D1->Prop}{ns:P0 C1}(SF:a90 Bs bm sa Iz)
  (hC:B3 C=E0 (IP nm q C N bs bm I0 sn w0 ab UJ dd k0 k1 k2 k3 k5 newId))(hn:aH N mN)(Vg:mN W2=H0)
  (hB:MA (.U0 Bs) W2=J4 H0)(hx:B3 x=E0 o)(hc:F4=.J0 C)(Wg:mU=E0 dx)(XG:TU dx m)
  (hq:∀h' MD,Ze dx (λ y=>if y=W2 then E0 v else m y)->TA dx h h'->(∀o,B3 dx=E0 o->∃o',C3 dx=E0 o'/\RK=F4)->R (.ok (.U1 .H0)) ⟨h',g,d,MD,os⟩)(hw:PU m ns)(Y7:IK<=XA):
  FC (T4 K3 w) A (.K2 (.Z4 sa) ⟨[.J0 x,.Y0 W2 tk,v],[]⟩) R ⟨h,g,d,t,os⟩:=
 li LU.uF z90 (wpAny_check_sa SF hC hx hc (zJ0 SF hC hn Vg hB hx hc Wg XG hq hw Y7))
theorem BK0{Q:S7->D1->Prop}{ns:P0 C1}(SF:a90 Bs bm sa Iz)
  (hC:B3 C=E0 (IP nm q C N bs bm I0 sn w0 ab UJ dd k0 k1 k2 k3 k5 newId))(hn:aH N mN)(hsa:mN "__setattr__"=H0)(Vg:mN W2=H0)
  (hB:MA (.U0 Bs) W2=J4 H0)(hx:B3 x=E0 o)(hc:F4=.J0 C)(Wg:mU=E0 dx)(XG:TU dx m)
  (hq:∀h' MD,Ze dx (λ y=>if y=W2 then E0 v else m y)->TA dx h h'->(∀o,B3 dx=E0 o->∃o',C3 dx=E0 o'/\RK=F4)->Q () ⟨h',g,d,MD,os⟩)(hw:PU m ns)(Y7:IK<=XA):
  V0 (T4 K3 w) A (PW (.J0 x) W2 v) Q E ⟨h,g,d,t,os⟩:=by
 have f3:=LU.R6 (.J0 x)
 repeat (any_goals (first|assumption|(with_reducible refine wA hx ?_;rw[hc])|(with_reducible refine P80 hC hn SF.Ng LU.X9 ?_;rw[hsa])|wp_step))
 refine AK0 SF hC hn Vg hB hx hc Wg XG (λ h' MD h1 h2 h3=>?_) hw Y7
 repeat (any_goals (first|assumption|wp_step))
 exact hq h' MD h1 h2 h3
end
end
end
section
variable{B:Bs}{A:Around}{G:Gh}{s:Shared}{F:Addr->Prop}
noncomputable abbrev RU:Gh->O1->S7->S7->Prop:=λ _ _ _ _=>lP
theorem Ru{x:C1}{v:K0}:∀{U2:P0 (C1×K0)},(bN (·.1)).GD->((NJ U2 x v).Y4 (·.1)).GD/\(∀y∈(NJ U2 x v).Y4 (·.1),y=x\/y∈bN (·.1)):=by
 intro zq;induction zq with
 |B0=>
  intro _;exact⟨by rw[Ut];simp,λ y h=>by rw[Ut]at h;simp at h;exact .S2 h⟩
 |A0 pq q ih=>
  intro hn;obtain⟨y,u⟩:=pq;rw[vT,CP]at hn;rw[Vt hn.1];obtain⟨h1,h2⟩:=ih hn.2;by_cases e:y=x
  ·subst e;rw[w3 O];refine⟨by rw[vT,CP];exact hn,λ z hz=>?_⟩;exact .L2 hz
  ·rw[u3 e];refine⟨?_,λ z hz=>?_⟩
   ·rw[vT,CP];refine⟨λ hy=>?_,h1⟩;rcases h2 y hy with r|r
    ·exact e r
    ·exact hn.1 r
   ·rw[vT,qD]at hz;rcases hz with r|r
    ·exact .L2 (by rw[r];exact TE ..)
    ·rcases h2 z r with r|r
     ·exact .S2 r
     ·exact .L2 (yB _ r)
theorem CK0{x y:C1}{v:K0}:∀{U2:P0 (C1×K0)},(bN (·.1)).GD->rF (NJ U2 x v) y=if y=x then E0 v else rF U2 y:=by
 intro zq;induction zq with
 |B0=>
  intro _;rw[Ut,uS];by_cases e:y=x
  ·rw[w3 e,w3 Ee]
  ·rw[u3 e,u3 (E9 e)]
 |A0 pq q ih=>
  intro hn;obtain⟨z,u⟩:=pq;rw[vT,CP]at hn;rw[Vt hn.1,uS];by_cases e:z=x
  ·subst e;rw[w3 O,uS];by_cases h:z=y
   ·rw[w3 h,w3 MJ]
   ·rw[u3 h,u3 h,u3 (E9 h)]
  ·rw[u3 e,uS,ih hn.2];by_cases h:z=y
   ·rw[w3 h,u3 (λ q=>e (h.V2 q)),w3 h]
   ·rw[u3 h,u3 h]
theorem DK0{U2:P0 (C1×K0)}{y:C1}(h:rF U2 y≠H0):y∈bN (·.1):=by
 induction U2 with
 |B0=>exact T3 O h
 |A0 e q ih=>
  obtain⟨z,u⟩:=e;rw[uS]at h;by_cases e:z=y
  ·rw[e];exact TE ..
  ·rw[u3 e]at h;exact yB _ (ih h)
theorem Su(CT:XD B T){c:C0}{k:Cl}(h:DQ T c=E0 k):Ay (cY B c k):=by obtain⟨e,x⟩:=Mu h;exact CT c k e x
theorem EK0{FZ:C0->I1}{T:jI}(CT:XD B T)(ON:xE){x:C1}(hx:kD x=I0){o p:PV}{v u:K0}(g:J1 B A G s)(r:F3 G W0 o v)(rp:F3 G W0 p u):
  U4 B RU F A (Fr FZ T o (vc x) p) (PW v x u) G s:=by
 have uI:=Lu hx;intro P X M0;cases o using P3 with
 |J0 i=>
  symm;obtain⟨hi,O⟩:=r;change(O10 FZ T (vc x) p (O3 i) R1).P1 P X at M0;cases ei:O3 i with
  |u7 c d=>
   rw[ei]at M0;change(N10 FZ T c d (vc x) p (O3 d) R1).P1 P X at M0;cases ed:O3 d with
   |V6 l=>
    rw[ed]at M0;obtain⟨U2,od,R⟩:=Ez g hi ei ed;change((bif SO T c (vc x)then(bif H5 l then GE FZ d (.V6 (z5 (vc x) p l))else F2 36)else F2 36) R1).P1 P X at M0;obtain⟨hm,M0⟩:=EG M0;obtain⟨hs,M0⟩:=EG M0;change((bif FZ d then F2 29 else qW d (.V6 (z5 (vc x) p l))) R1).P1 P X at M0;cases hz:FZ d with
    |I0=>
     ext;rw[hz]at M0;exact B4
    |R0=>
     rw[hz]at M0;obtain⟨k,hk,hl⟩:=Nu hm;obtain⟨X'⟩:=Su CT hk;have bH:=Zt Gz hs;obtain⟨hh,gg,dd,tt,os⟩:=s;ext;refine BK0 (ns:=bN (·.1)) (v:=u) Y8.store_object (EX g) (uW _ QB) X'.sa (K00 x uI hl) (ON x hx) Jg O O R.ns (λ h' MD AM uJ YG=>?_) (λ y hy=>DK0 hy) (by rw[uj,HI];exact BM ‹_› O);symm;have bX:Ze (Y2 d) (rF (NJ U2 x u)):=by
      have:(λ y=>if y=x then E0 u else rF U2 y)=rF (NJ U2 x u):=Tm λ y=>(CK0 R.Ix).Y3;rw[<-J2];exact AM
     obtain⟨o',e',c'⟩:=YG _ R.od;have kb:=YL;have tk:zB E5 hh h':=λ b vs n _ e=>kb _ _ (by rintro O;rw[R.od]at e;obtain O:=H3 e;exact T3 R.R40 (by simp)) e;have T7:vE B (aI d (.V6 (z5 (vc x) p l))) h' (Y2 d) (.V6 (z5 (vc x) p l)):=
      ⟨NJ U2 x u,o',e',c'.V2 R.R40,bX,(Ru R.Ix).1,yz (Tn d _) tk (Kc uI rp R.Ix Gz)⟩
     obtain⟨g',st⟩:=g.xl (h':=h') (tk:=MD) (i:=d) (o:=.V6 (z5 (vc x) p l)) R.ltd (by rw[ed];simp) (by simp) (λ _ _=>⟨_,O⟩) (λ b o hb e=>kb b o hb e) T7;ext;exact .at (a:=()) (wH st) g' zD M0
   |_=>
    ext;rw[ed]at M0;exact B4
  |_=>
   ext;rw[ei]at M0;exact B4
 |_=>exact B4
end
section
section
variable{B:Bs}{A:Around}{G:Gh}{s:Shared}{F:Addr->Prop}
def Tc:Mt->U6
 |.SI=>"list.append"|.bK=>"list.pop"|.dN=>"list.extend"|.l9=>"dict.get"|.CU=>"dict.setdefault"|.GF=>"dict.update"|.mP=>"str.join"|.fR=>"str.split"|.J5=>""
def RM(m:Mt)(v:K0):Gh->O1->PV×PV->K0×P0 K0->Prop:=λ G h p q=>
 (p.1=.H0/\q=(.Z4 (Tc m),[v]))\/(p.1≠.H0/\F3 G h p.1 q.1/\A4 G h p.2 q.2)
theorem Tu{x:C1}:∀{m:Mt},FG x=m->m≠.J5->(m=.SI/\x="append")\/(m=.bK/\x="pop")\/(m=.dN/\x="extend")\/(m=.l9/\x="get")\/(m=.CU/\x="setdefault")\/
  (m=.GF/\x="update")\/(m=.mP/\x="join")\/(m=.fR/\x="split"):=by
 intro m h hm;unfold FG at h;cases h1:x==("append":C1)with
 |I0=>rw[h1]at h;exact .S2 ⟨MJ,YD h1⟩
 |R0=>
 rw[h1]at h;cases h2:x==("pop":C1)with
 |I0=>rw[h2]at h;exact .L2 (.S2 ⟨MJ,YD h2⟩)
 |R0=>
 rw[h2]at h;cases h3:x==("extend":C1)with
 |I0=>rw[h3]at h;exact .L2 (.L2 (.S2 ⟨MJ,YD h3⟩))
 |R0=>
 rw[h3]at h;cases h4:x==("get":C1)with
 |I0=>rw[h4]at h;exact .L2 (.L2 (.L2 (.S2 ⟨MJ,YD h4⟩)))
 |R0=>
 rw[h4]at h;cases h5:x==("setdefault":C1)with
 |I0=>rw[h5]at h;exact .L2 (.L2 (.L2 (.L2 (.S2 ⟨MJ,YD h5⟩))))
 |R0=>
 rw[h5]at h;cases h6:x==("update":C1)with
 |I0=>rw[h6]at h;exact .L2 (.L2 (.L2 (.L2 (.L2 (.S2 ⟨MJ,YD h6⟩)))))
 |R0=>
 rw[h6]at h;cases h7:x==("join":C1)with
 |I0=>rw[h7]at h;exact .L2 (.L2 (.L2 (.L2 (.L2 (.L2 (.S2 ⟨MJ,YD h7⟩))))))
 |R0=>
 rw[h7]at h;cases h8:x==("split":C1)with
 |I0=>rw[h8]at h;exact .L2 (.L2 (.L2 (.L2 (.L2 (.L2 (.L2 ⟨MJ,YD h8⟩))))))
 |R0=>rw[h8]at h;exact T3 MJ hm
section
variable{M:Model}{E:Value->Shared->Prop}{pl:Sem Bool}{Q:Value×List Value->Shared->Prop}
theorem FK0{m:Mt}{a:H1}{vs:P0 K0}{n:C0}{x:C1}(hm:Bq m=I0)(e:FG x=m)(ho:E3 a=E0 (lB vs n))(h:Q (.Z4 (Tc m),[.J0 a]) s):V0 M A (He (.J0 a) x pl) Q E s:=by
 have hT:aC (.J0 a) "list":=⟨_,ho,O⟩;have hd:∀b,w6 a=.J0 b->∃o,E3 b=E0 o/\mU=H0:=λ b e=>by cases e;exact⟨_,ho,O⟩
 rcases Tu e (by rintro O;contradiction)with⟨O,O⟩|⟨O,O⟩|⟨O,O⟩|⟨O,O⟩|⟨O,O⟩|⟨O,O⟩|⟨O,O⟩|⟨O,O⟩<;>first|(cases hm;done)|skip
 ·have h:Q (.Z4 "list.append",[.J0 a]) s:=h
  with_reducible exact Db hT d80 F.uS0 F.type_list_append hd h
 ·have h:Q (.Z4 "list.pop",[.J0 a]) s:=h
  with_reducible exact Db hT d80 GT0 F.type_list_pop hd h
 ·have h:Q (.Z4 "list.extend",[.J0 a]) s:=h
  with_reducible exact Db hT d80 Z80 F.type_list_extend hd h
theorem GK0{m:Mt}{a:H1}{U2:P0 (C1×K0)}{x:C1}(hm:Cq m=I0)(e:FG x=m)(ho:W0.PR (CD bE kE) a U2)(h:Q (.Z4 (Tc m),[.J0 a]) s):V0 M A (He (.J0 a) x pl) Q E s:=by
 have hT:aC (.J0 a) "dict":=ho.mapOf.wC;have hd:=ho.mapOf.noDict;rcases Tu e (by rintro O;contradiction)with⟨O,O⟩|⟨O,O⟩|⟨O,O⟩|⟨O,O⟩|⟨O,O⟩|⟨O,O⟩|⟨O,O⟩|⟨O,O⟩<;>first|(cases hm;done)|skip
 ·have h:Q (.Z4 "dict.get",[.J0 a]) s:=h
  with_reducible exact Db hT e80 HT0 F.type_dict_get hd h
 ·have h:Q (.Z4 "dict.setdefault",[.J0 a]) s:=h
  with_reducible exact Db hT e80 OS0 F.type_dict_setdefault hd h
 ·have h:Q (.Z4 "dict.update",[.J0 a]) s:=h
  with_reducible exact Db hT e80 cS0 F.type_dict_update hd h
theorem HK0{m:Mt}{y:C1}{t:O6}{x:C1}(hm:Aq m=I0)(e:FG x=m)(h:Q (.Z4 (Tc m),[.Y0 y t]) s):V0 M A (He (.Y0 y t) x pl) Q E s:=by
 rcases Tu e (by rintro O;contradiction)with⟨O,O⟩|⟨O,O⟩|⟨O,O⟩|⟨O,O⟩|⟨O,O⟩|⟨O,O⟩|⟨O,O⟩|⟨O,O⟩<;>first|(cases hm;done)|skip
 ·have h:Q (.Z4 "str.join",[.Y0 y t]) s:=h
  with_reducible exact GM.mP h
 ·have h:Q (.Z4 "str.split",[.Y0 y t]) s:=h
  with_reducible exact GM.fR h
end
theorem IK0{T:jI}(CT:XD B T)(ON:xE){x:C1}(hx:kD x=I0){o:PV}{v:K0}{pl:X7 I1}(g:J1 B A G s)(r:F3 G W0 o v):
  U4 B (RM (FG x) v) F A (T10 T (FG x) (vc x) o) (He v x pl) G s:=by
 have uI:=Lu hx;intro P X M0;cases o using P3 with
 |Y0 n=>
  obtain⟨_,y,t,O,_⟩:=r;change((bif Aq (FG x)then W1 (OH,fP)else F2 57) R1).P1 P X at M0;obtain⟨hs,M0⟩:=EG M0;refine HK0 (m:=FG x) hs O ?_;exact(.CB (R:=RM _ _) (a:=(OH,fP)) g (.S2 ⟨O,O⟩) M0)
 |J0 i=>
  obtain⟨hi,O⟩:=r;change(S10 T (FG x) (vc x) (.J0 i) (O3 i) R1).P1 P X at M0;have ob:=GA i hi;generalize ei:O3 i=zo at M0;cases zo using EA with
  |M1 l=>
   rw[ei]at ob;obtain⟨vs,k,e,_⟩:=ob;change((bif Bq (FG x)then W1 (OH,fP)else F2 57) R1).P1 P X at M0;obtain⟨hs,M0⟩:=EG M0;refine FK0 (m:=FG x) hs O e ?_;exact(.CB (R:=RM _ _) (a:=(OH,fP)) g (.S2 ⟨O,O⟩) M0)
  |H2 l=>
   rw[ei]at ob;obtain⟨U2,e,_⟩:=ob;change((bif Cq (FG x)then W1 (OH,fP)else F2 57) R1).P1 P X at M0;obtain⟨hs,M0⟩:=EG M0;refine GK0 (m:=FG x) hs O e ?_;exact(.CB (R:=RM _ _) (a:=(OH,fP)) g (.S2 ⟨O,O⟩) M0)
  |u7 c d=>
   change(R10 T (vc x) c (.J0 i) (O3 d) R1).P1 P X at M0;generalize ed:O3 d=zo at M0;cases zo using EA with
   |V6 l=>
    obtain⟨U2,od,R⟩:=Ez g hi ei ed;change((match H4 (vc x) l with
     |E0 g=>bif SO T c (vc x)then(bif aE g then F2 56 else W1 (g,fP))else F2 56
     |B2=>F1 (w5 56 (xX T c (vc x))) λ a=>W1 (kA0 a,DB0 (.J0 i) .B0)) R1).P1 P X at M0
    rcases vS uI Gz with⟨q1,q2⟩|⟨p,u,q1,q2,ru⟩
    ·rw[q1]at M0;obtain⟨a,ha,hP⟩:=r9 (j6 M0);obtain⟨k,hk,hm⟩:=Q40 ha;obtain⟨X'⟩:=Su CT hk;obtain⟨m1,m2,of_,m3,m4⟩:=X'.Fb x a uI hm;have g0:=g;obtain⟨hh,gg,dd,tt,os⟩:=s;refine method_of (EX g) (uW _ QB) Hz X'.gh m1 (QB _ _ m3 m2 (by rw[m4];decide) (by rw[m4];decide)) m4 (ON x hx) R.I q2 ?_;exact .CB (R:=RM _ _) (a:=(kA0 a,DB0 (.J0 i) .B0)) g0 (.L2 ⟨by simp,O,_,_,O,⟨hi,O⟩,O⟩) hP
    ·rw[q1]at M0;change((bif SO T c (vc x)then(bif aE p then F2 56 else W1 (p,fP))else F2 56) R1).P1 P X at M0;obtain⟨hm,M0⟩:=EG M0;change((bif aE p then F2 56 else W1 (p,fP)) R1).P1 P X at M0;cases hp:aE p with
     |I0=>rw[hp]at M0;exact B4
     |R0=>
      rw[hp]at M0;obtain⟨k,hk,hl⟩:=Nu hm;obtain⟨X'⟩:=Su CT hk;have g0:=g;obtain⟨hh,gg,dd,tt,os⟩:=s;refine S0 (Q80 Jg O (EX g) (uW _ QB) Hz X90 Y8.lk_object_ga ?_);show V0 _ _ (if(dS0 "object.__getattribute__"!="object.__getattribute__")=I0 then _ else _) _ _ _;refine S0 (Q80 Jg O (EX g) (uW _ QB) X'.gh X90 Y8.lk_object_getattr ?_);refine S0 (Q80 Jg O (EX g) (uW _ QB) (K00 x uI hl) X90 (ON x hx) ?_);refine S0 (SV0 (EX g) (uW _ QB) Hz (K00 x uI hl) (ON x hx) R.I q2 (Pu ru) (E2 ?_));obtain⟨g',st⟩:=g0.y3 (tt+1);exact .at (R:=RM _ _) (a:=(p,fP)) (wH st) g' (.L2 ⟨(by rintro O;contradiction),NK st,O⟩) M0
   |_=>exact B4
  |_=>exact B4
 |_=>exact B4
end
end
section
section
variable{B:Bs}{A:Around}{G:Gh}{s:Shared}{F:Addr->Prop}
section
variable{prog:Program}{w:World}{E:Value->Shared->Prop}{h:Heap}{g:Array GenState}{d:Drawn}{t:Nat}{os:OsState}
variable{nm q:Str}{C N:Addr}{bs:List Value}{sn:List Str}{sub:List Value}{col:Option Bool}{dd:Option Addr}{k0 k1 k2 k3 k5:Option Value}
noncomputable abbrev Uc(h:O1)(C:H1):O1:=(iN {O2:=.U0 "dict",L3:=.H2 #[]}).y6 (wZ C l8)
theorem JK0{mN:C1->Q1 K0}{I4:P0 K0}{fI:H1}{oI:C4}{Q:gH->D1->Prop}
  (hC:B3 C=E0 (IP nm q C N bs [.U0 "object"] I0 sn w0 R0 UJ dd k0 k1 k2 k3 k5 "object.__new__"))(hn:aH N mN)(hi:mN "__init__"=E0 (.J0 fI))
  (BS:B3 fI=E0 oI)(cX:cz=.U0 "function")
  (hq:V0 (T4 K3 w) A (K2 (.J0 fI) (.J0 (l8+1)::I4)) (λ r s'=>r=.H0/\Q (.KD (.U1 (.J0 (l8+1)))) s') E ⟨Uc h C,g,d,t,os⟩):
  V0 (T4 K3 w) A (KA.«type.__call__» ⟨.J0 C::I4,[]⟩) Q E ⟨h,g,d,t,os⟩:=by
 have FF:=Y8.objNew;have KK0:mroOf (.U0 "object")=J4 [.U0 "object"]:=by kernel_rfl
 have hlk:MA (.U0 "object") "__init__"=J4 (E0 (.Z4 "object.__init__")):=by rw[ft,iq];kernel_rfl
 repeat (first|with_reducible refine wA hC ?_|with_reducible refine i80 hC ?_|wp_step)
 refine GS0 (Fs _ FF.quiet) (wpAny_check_obj_new FF hC ?_);refine codeAny_obj_new FF hC hn hi ?_;show V0 _ _ _ _ _ _;have Hj:=S6 {O2:=.J0 C,H2:=E0 l8,L3:=.uF} (S6 {O2:=.U0 "dict",L3:=.H2 #[]} hC);have Uu:=S6 {O2:=.J0 C,H2:=E0 l8,L3:=.uF} (S6 {O2:=.U0 "dict",L3:=.H2 #[]} BS);have hn₁:((iN {O2:=.U0 "dict",L3:=.H2 #[]}).y6 {O2:=.J0 C,H2:=E0 l8,L3:=.uF}).Ns N mN:=
  let⟨o,es,ep,e,r⟩:=hn;⟨o,es,ep,S6 _ (S6 _ e),r⟩
 have xF:((iN {O2:=.U0 "dict",L3:=.H2 #[]}).y6 {O2:=.J0 C,H2:=E0 l8,L3:=.uF}).W5 (l8+1)=E0 {O2:=.J0 C,H2:=E0 l8,L3:=.uF}:=by heap_get
 have Xg:(w6 C::[TL "object"]).RG (.J0 C)=I0:=by simp
 unfold cw
 repeat (first|with_reducible refine wA xF ?_|(with_reducible refine xQ Hj ?_;rw[Xg])|wp_step)
 show V0 _ _ (MA (.J0 C) _) _ _ _;refine P80 Hj hn₁ KK0 hlk ?_;rw[hi];refine z7 (S0 ?_);refine S0 (IR (T:="function") ⟨_,Uu,cX⟩ ?_);refine E2 (S0 (U3 hq (λ r s' hr=>?_) λ _ _ x=>x));obtain⟨O,hQ⟩:=hr
 wp_walk
 exact hQ
theorem LK0{mN:C1->Q1 K0}{I4:P0 K0}{fI:H1}{oI:C4}{Q:K0->D1->Prop}
  (hC:B3 C=E0 (IP nm q C N bs [.U0 "object"] I0 sn w0 R0 UJ dd k0 k1 k2 k3 k5 "object.__new__"))(hn:aH N mN)(hi:mN "__init__"=E0 (.J0 fI))
  (BS:B3 fI=E0 oI)(cX:cz=.U0 "function")
  (hq:V0 (T4 K3 w) (ZR (.Z4 "type.__call__" ⟨.J0 C::I4,[]⟩)) (K2 (.J0 fI) (.J0 (l8+1)::I4)) (λ r s'=>r=.H0/\Q (.J0 (l8+1)) s') E ⟨Uc h C,g,d,t,os⟩):
  V0 (T4 K3 w) A (K2 (.J0 C) I4) Q E ⟨h,g,d,t,os⟩:=by
 have f1:=TV0;have f2:=tc_bind (.J0 C);have hT:(⟨h,g,d,t,os⟩:D1).XV (.J0 C) "type":=⟨_,hC,O⟩;refine oZ (UZ ?_);show V0 _ _ (SA0 (.J0 C) _) _ _ _
 repeat (any_goals (first|assumption|with_reducible refine wA hC ?_|wp_step))
 refine⟨O,?_⟩;refine LS0 (Fs _ (by decide +E7)) XT0 (HS0 hC (JK0 hC hn hi BS cX ?_));exact hq
end
theorem M8.under{n:C0}{c:H1}{L1:P0 K0}(x:M8 (n+1) A):M8 n (ZR (.Z4 "type.__call__" ⟨.J0 c::L1,[]⟩)):=
 ⟨q00,by have:=Ho;show YR+1+n+50<=_;exact ω40 ‹_›,by have:=Go;show mL+1+8*n+500<=_;exact ω31 ‹_› O⟩
theorem S40{c:H1}{L1:P0 K0}:(ZR (.Z4 "type.__call__" ⟨.J0 c::L1,[]⟩)).z70=VN:=O
theorem J1.MK0(g:J1 B A G s)(c:C0):
  J1 B A ((o7 (.V6 .B0) P2).OB (.u7 c I3) (P2+1)) {s with A3:=Uc W0 c}/\
   Z2 B N2 G s ((o7 (.V6 .B0) P2).OB (.u7 c I3) (P2+1)) {s with A3:=Uc W0 c}/\
   F3 ((o7 (.V6 .B0) P2).OB (.u7 c I3) (P2+1)) (Uc W0 c) (.J0 (I3+1)) (.J0 (P2+1)):=by
 have Yg:(F8 {O2:=.U0 "dict",L3:=.H2 #[]}).W5 P2=E0 {O2:=.U0 "dict",L3:=.H2 #[]}:=pT0 O O;obtain⟨g1,D2⟩:=g.y6 (o:=.V6 .B0) (ob:={O2:=.U0 "dict",L3:=.H2 #[]}) (tk:=X4)
  ⟨[],_,Yg,O,bU0 ⟨_,#[],_,Yg,O,λ e he=>T3 he (by simp),λ _=>O⟩,vb,O⟩
 have sz:(F8 {O2:=.U0 "dict",L3:=.H2 #[]}).SC.L9=P2+1:=TD ..;have hgi:((F8 {O2:=.U0 "dict",L3:=.H2 #[]}).y6 (wZ c P2)).W5 (F8 {O2:=.U0 "dict",L3:=.H2 #[]}).SC.L9=E0 (wZ c P2):=BA _ O;have x:=g1.y6 (o:=.u7 c I3) (ob:=wZ c P2) (tk:=X4) (by
  refine⟨?_,FW (rD _),.B0,?_⟩
  ·have e:((o7 (.V6 .B0) P2).OB (.u7 c I3) (F8 {O2:=.U0 "dict",L3:=.H2 #[]}).SC.L9).ρ I3=P2:=by
    show(if I3=I3+1 then _ else(if I3=I3 then P2 else _))=_;rw[u3 (by omega),w3 O]
   rw[e];exact hgi
  ·rw[fE];show(if I3=I3+1 then _ else _)=_;rw[u3 (by omega),fE,w3 O])
 rw[sz]at x;refine⟨x.1,AC x.2,rD _,?_⟩;show w6 _=w6 (if I3+1=I3+1 then _ else _);rw[w3 O]
def jO(B:Bs)(n:C0)(E:B5):Prop:=
 ∀{A:B6}{G:Gh}{s:D1}{f L1:PV}{fv:K0}{vs:P0 K0},M8 n A->J1 B A G s->F3 G W0 f fv->A4 G W0 L1 vs->U4 B RV N2 A (E.K2 f L1) (W7 fv vs) G s
theorem NK0{n:C0}{ih:B5}(H:jO B n ih){c:C0}{k:Cl}(X':cY B c k)(hk:MI=R0)(C6:M8 (n+1) A)(gd:J1 B A G s){L1:PV}{K5:P0 K0}
  (r:A4 G W0 L1 K5):U4 B RV N2 A (qa ih c k L1) (W7 (.J0 c) K5) G s:=by
 intro P X M0;unfold qa at M0;rw[hk]at M0;change(F1 (jy .B0 (.u7 c)) (λ o=>F1 (Nf (.Z0 VP) (.A0 o L1)) λ v=>F1 (zp v) λ _=>W1 o) R1).P1 P X at M0;obtain⟨i1,i2,of_,i3,i4⟩:=X'.vZ;have hC:=EX gd;have hN:=uW _ EC;have hf:=EC _ _ i3 i2 (by rw[i4];decide) (by rw[i4];decide);obtain⟨g2,I2,rx⟩:=gd.MK0 c;obtain⟨hh,gg,dd,tt,os⟩:=s;refine LK0 hC hN i1 hf i4 ?_;have g3:J1 B (ZR (.Z4 "type.__call__" ⟨.J0 c::K5,[]⟩)) _ _:=jZ g2 S40;have sn:=H (f:=.Z0 VP) (fv:=.J0 VP) C6.under g3 O (L1:=.A0 (.J0 (I3+1)) L1) (vs:=.J0 (VA+1)::K5) ⟨_,_,O,rx,UI (vy.V2 (iU _ _) (Gh.UW0 _ _ _)) λ b vs k hb e=>rA _ _ _ _ (rA _ _ _ _ e)⟩;have A5:=j6 M0;change(F1 (Nf (.Z0 VP) (.A0 (.J0 (I3+1)) L1)) (λ v=>F1 (zp v) λ _=>W1 (.J0 (I3+1))) ((iL (.V6 .B0)).OB (.u7 c I3))).P1 P X at A5;refine U3 (sn _ _ (j6 A5)) (λ v s' ⟨G',a,st,g',ra,hp⟩=>?_) λ e s' ⟨G',i,st,g',xi,hx⟩=>⟨G',i,NP st,jZ g' O,xi,hx⟩;cases a using P3 with
 |H0=>exact⟨ra,.at (R:=RV) (NP st) (jZ g' O) (IX st) hp⟩
 |_=>exact J00
end
end
section
section
open PyProof.Rows
variable{B:Bs}
structure F5(B:Bs)(n:C0)(A:B6)(N0:o6)(L:y5)(O0:PV)(G:Gh)(s:D1):Prop where
 C6:M8 n A
 es:sG A N0 L
 gd:J1 B A G s
 er:T5 B N0 D0 O0 G W0
section
variable{n:Nat}{A:Around}{cenv:Env}{L:Kinds}{env:PV}{G G':Gh}{s s':Shared}
theorem F5.J6(x:F5 B n A N0 L O0 G s)(st:Z2 B N2 G s G' s')(g:J1 B A G' s'):F5 B n A N0 L O0 G' s':=⟨x.C6,x.es,g,x.EI st⟩
theorem F5.pred(x:F5 B (n+1) A N0 L O0 G s):F5 B n A N0 L O0 G s:=⟨x.C6.c9,x.es,x.gd,x.er⟩
theorem F5.cu(x:F5 B n A N0 L O0 G s):Cu A:=x.C6.cu
end
def x7(B:Bs)(g:C0->Q1 PV)(cl:C0->C0)(n:C0)(E:B5):Prop:=
 ∀{A:B6}{G:Gh}{s:D1}{N0:o6}{L:y5}{O0:PV}{k:C0}{e:v0},F5 B n A N0 L O0 G s->U4 B RV N2 A (E.A6 (cE g cl k L e) O0) (M5 e N0) G s
def cQ(B:Bs)(g:C0->Q1 PV)(cl:C0->C0)(n:C0)(E:B5):Prop:=
 ∀{A:B6}{G:Gh}{s:D1}{N0:o6}{L:y5}{O0:PV}{k:C0}{e:v0},F5 B n A N0 L O0 G s->U4 B RT N2 A (LC E (cE g cl k L e) O0) (SH e N0 (M5 e N0)) G s
def dY(n:C0):Gh->O1->PV->P0 K0->Prop:=λ G h p l=>A4 G h p l/\HJ=n
section
variable{g:Nat->Option PV}{cl:Nat->Nat}{n:Nat}{ih:B5}{FZ:Nat->Bool}{T:Tab}
variable{A:Around}{cenv:Env}{L:Kinds}{env:PV}{G:Gh}{s:Shared}{k:Nat}
theorem OK0(BF:R7 B g)(X:F5 B n A N0 L O0 G s){x:C1}{C2:Q3}:U4 B RV N2 A (nE FZ T ih (IQ g L x) O0) (M5 (.Z3 x C2) N0) G s:=by
 unfold IQ;cases hn:w4 x with
 |R0=>exact BD
 |I0=>
  cases hl:l7 L x with
  |I0=>exact S30 II VB OR hn hl
  |R0=>
   cases hg:D7 L x with
   |R0=>exact BD
   |I0=>
    cases hp:g (vc x)with
    |H0=>exact BD
    |E0 p=>exact U30 BF II VB hn hg hp
theorem T40(c:se):UO c=.M2\/∃p,UO c=.u0 p:=by
 cases c with
 |Y0 s=>
  change(bif Y1 (vc s) 0 then X00 else .u0 (.Y0 (vc s)))=.M2\/∃p,(bif Y1 (vc s) 0 then X00 else .u0 (.Y0 (vc s)))=.u0 p;cases Y1 (vc s) 0 using n7 with
  |I0=>exact .S2 O
  |R0=>exact .L2 ⟨_,O⟩
 |H0|N3|j0=>exact .L2 ⟨_,O⟩
 |_=>exact .S2 O
theorem PK0(X:F5 B n A N0 L O0 G s){c:se}{j:C0}{C2:Q3}:U4 B RV N2 A (nE FZ T ih (UO c) O0) (M5 (.G8 c j C2) N0) G s:=by
 rcases T40 c with h|⟨p,h⟩
 ·rw[h];exact BD
 ·have:=Dx (F:=N2) (A:=A) (N0:=N0) VB (k:=j) (C2:=C2) h;rw[h];exact J2
theorem vI{e:v0}(h:P8 e=I0)(r:P0 v0)(N0:o6):JU (e::r) N0=(R0,M5 e N0)::JU r N0:=by
 cases e using Z9<;>first|rfl|contradiction
theorem Ij{f:v0->C}{e:v0}(h:P8 e=I0)(r:P0 v0):Q8 f (e::r)=.A0 (f e) (Q8 f r):=by
 cases e using Z9<;>first|rfl|contradiction
theorem Jj{f:v0->C}{e:v0}(h:P8 e=R0)(r:P0 v0):Q8 f (e::r)=.M2:=by
 cases e using Z9<;>first|rfl|contradiction
theorem Lj(H:x7 B g cl n ih):∀{es:P0 v0}{C2:Q3}{G:Gh}{s:D1},F5 B n A N0 L O0 G s->U4 B (dY Nn) N2 A (SM ih O0 (Q8 (cE g cl k L) es)) (Jy (A_ C2 (JU es N0))) G s:=by
 intro es;induction es with
 |B0=>exact λ X P Q M0=>GJ (.CB (R:=dY 0) (a:=.B0) VB ⟨O,O⟩ M0)
 |A0 e r ih1=>
  intro C2 G s X P Q M0;cases he:P8 e with
  |R0=>rw[Jj he]at M0;exact B4
  |I0=>
   rw[Ij he]at M0;rw[vI he];refine uD ((H (k:=k) (e:=e) X).q8 M0 λ G1 s1 v w D2 g1 r1 D4=>?_);refine(ih1 (C2:=C2) (GC D2 g1)).IE D2 D4 λ G2 s2 vs ws I2 V9 g2 r2 A5=>?_;exact .at (R:=dY (r.L7+1)) (a:=.A0 v vs) I2 g2 ⟨⟨w,ws,O,r1.J6 V9,r2.1⟩,G6 HH r2.2⟩ A5
theorem QK0(H:x7 B g cl n ih)(X:F5 B n A N0 L O0 G s){op:gK}{l r:v0}{C2:Q3}:
  U4 B RV N2 A (Z10 ih op (cE g cl k L l) (cE g cl k L r) O0) (M5 (.H_ l (vt op) r C2) N0) G s:=by
 intro P Q M0;refine cU0 ((H X).q8 M0 λ G1 s1 x v D2 g1 rx D4=>?_);refine(H (GC D2 g1)).IE D2 D4 λ G2 s2 y w I2 V9 g2 ry A5=>?_;exact(pJ0 g2 (IX V9) ry).H8 I2 A5
theorem RK0(H:cQ B g cl n ih)(H':x7 B g cl n ih)(X:F5 B n A N0 L O0 G s){e:v0}{C2:Q3}:
  U4 B RV N2 A (F1 (LC ih (cE g cl k L e) O0) λ t=>W1 (.N3 (!t))) (M5 (.ZD .XX e C2) N0) G s:=by
 intro P Q M0;have dQ:(F1 (P5 (cE g cl k L e) O0) (λ v=>F1 (iC v) λ t=>W1 (.N3 (!t))) R1).P1 P Q:=by
  have:=j6 M0;unfold LC at J2;exact WZ (Jf (λ a σ h=>WZ h) (λ _ _ h=>h) (j6 J2))
 refine Ev ((H' X).q8 dQ λ G1 s1 x v D2 g1 rx D4=>?_);refine z7 ?_;refine S0 ((Dj g1 rx).IE D2 D4 λ G2 s2 t b I2 V9 g2 hb A5=>E2 ?_);cases hb;exact .at (R:=RV) (a:=.N3 (!t)) I2 g2 O A5
theorem SK0(H:cQ B g cl n ih)(H':x7 B g cl n ih)(X:F5 B n A N0 L O0 G s){c a b:v0}{C2:Q3}:
  U4 B RV N2 A (F1 (LC ih (cE g cl k L c) O0) λ t=>RI t (P5 (cE g cl k L a) O0) (P5 (cE g cl k L b) O0)) (M5 (.SU c a b C2) N0) G s:=by
 intro P Q M0;refine dU0 ((H X).q8 M0 λ G1 s1 t b' D2 g1 rb D4=>?_);cases rb;cases t using n7 with
 |I0=>exact(H' (GC D2 g1)).H8 D2 D4
 |R0=>exact(H' (GC D2 g1)).H8 D2 D4
theorem Vu{es:P0 v0}(h:ZH es=I0):Nn<=XA:=by
 have:Nn<100:=by simpa[ZH,EH]using h
 rw[HI];exact BM (GP ‹_›) O
theorem TK0(H:x7 B g cl n ih)(X:F5 B n A N0 L O0 G s){es:P0 v0}{j:C0}{C2:Q3}(hf:ZH es=I0):
  U4 B RV N2 A (F1 (SM ih O0 (Q8 (cE g cl k L) es)) λ vs=>W1 (.Q0 vs)) (M5 (.P9 es j C2) N0) G s:=by
 intro P Q M0;refine wpAny_Tuple ((Lj H X).q8 M0 λ G1 s1 vs ws D2 g1 r1 D4=>⟨by rw[r1.2];exact Vu hf,?_⟩);obtain⟨g2,I2,r2⟩:=g1.G40 (tk:=jA) (k:=0) r1.1;exact .at (R:=RV) (a:=.Q0 vs) (AC I2) g2 r2 D4
theorem UK0(H:x7 B g cl n ih)(X:F5 B n A N0 L O0 G s){es:P0 v0}{C2:Q3}(hf:ZH es=I0):
  U4 B RV N2 A (F1 (SM ih O0 (Q8 (cE g cl k L) es)) λ vs=>Q9 (.M1 vs)) (M5 (.P0 es C2) N0) G s:=by
 intro P Q M0;refine b90 ((Lj H X).q8 M0 λ G1 s1 vs ws D2 g1 r1 D4=>⟨by rw[r1.2];exact Vu hf,?_⟩);obtain⟨g2,I2,r2⟩:=g1.WR (tk:=jA) (k:=0) r1.1;exact .at (R:=RV) (a:=.J0 PH) (AC I2) g2 r2 D4
def Wu(m:C0):Gh->O1->PV->P0 (K0×K0)->Prop:=λ G h p l=>HJ=m/\A4 G h p (l.Ky λ x=>[x.1,x.2])
theorem VK0(H:x7 B g cl n ih){C2:Q3}:∀{ks:P0 (Q1 v0)}{vs:P0 v0}{G:Gh}{s:D1},ks.ZA (·.sL)=I0->On=Q7->F5 B n A N0 L O0 G s->
  U4 B (Wu On) N2 A (SM ih O0 (DY (cE g cl k L) ks vs)) (evalPairs (pairTrees ks vs N0 C2)) G s:=by
 intro ks;induction ks with
 |B0=>
  intro vs G s _ hl X;obtain O:=EQ hl.Y3;exact λ P Q M0=>evalPairs_nil (.CB (R:=Wu 0) (a:=.B0) VB ⟨O,O⟩ M0)
 |A0 ko ks ih1=>
  intro vs G s ha hl X P Q M0;cases vs using c5 with
  |B0=>contradiction
  |A0 ve vs=>
  cases ko using Y9 with
  |H0=>contradiction
  |E0 ke=>
  refine evalPairs_cons ((H (k:=k) (e:=ke) X).q8 M0 λ G1 s1 x v D2 g1 r1 D4=>?_);refine S0 ((H (k:=k) (e:=ve) (GC D2 g1)).IE D2 (j6 D4) λ G2 s2 y w I2 V9 g2 r2 A5=>S0 (yA (E2 ?_)));refine(ih1 (vs:=vs) ha (dZ hl) (GC I2 g2)).IE I2 A5 λ G3 s3 zs ws S5 mD g3 r3 uA=>?_;exact .at (R:=Wu (On+1)) (a:=.A0 x (.A0 y zs)) S5 g3 ⟨G6 HH r3.1,v,_,O,(r1.J6 V9).J6 mD,w,_,O,r2.J6 mD,r3.2⟩ uA
theorem WK0{G:Gh}{h:O1}{K3:YN}{w:M4}{zs:P0 (K0×K0)}:∀{p d d':PV}{M3:P0 (C1×K0)},A4 G h p (zs.Ky λ x=>[x.1,x.2])->S8 G h d M3->(M3.Y4 (·.1)).GD->Nm p d=E0 d'->
  ∃U2,Carries (CD K3 w) zs U2/\S8 G h d' (TK M3 U2)/\((TK M3 U2).Y4 (·.1)).GD:=by
 induction zs with
 |B0=>
  intro p d d' M3 r rd nd e;have lc:=Aj r;generalize hz:([]:P0 (K0×K0)).Ky (λ x=>[x.1,x.2])=zs at lc;cases lc using s00 with
  |B0=>obtain O:=H3 e;exact⟨[],zD,rd,nd⟩
  |A0=>contradiction
 |A0 z zs ih=>
  obtain⟨x,v⟩:=z;intro p d d' M3 r rd nd e;obtain⟨a,q,O,ra,rr⟩:=x30 (v:=x) (q:=v::zs.Ky λ x=>[x.1,x.2]) r;obtain⟨b,q,O,rb,rr⟩:=x30 rr;cases a using P3 with
  |Y0 k=>
   obtain⟨h0,xs,t,O,hk⟩:=ra;subst hk;obtain⟨U2,hc,hd,hn⟩:=ih (M3:=NJ M3 xs v) rr (Kc h0 rb nd rd) (Ru nd).1 e;exact⟨(xs,v)::U2,⟨by show Sc xs (.Y0 xs t)=I0;simp[Sc],O,hc⟩,hd,hn⟩
  |_=>contradiction
theorem J1.newDict{A:B6}{G:Gh}{s:D1}(gd:J1 B A G s){tk:O6}:
  J1 B A (o7 (.H2 .B0) P2) {s with A3:=F8 {O2:=.U0 "dict",L3:=.H2 #[]},y3:=tk}/\Z2 B N2 G s (o7 (.H2 .B0) P2) {s with A3:=F8 {O2:=.U0 "dict",L3:=.H2 #[]},y3:=tk}/\
   F3 (o7 (.H2 .B0) P2) (F8 {O2:=.U0 "dict",L3:=.H2 #[]}) (.J0 I3) (.J0 P2):=by
 have h:=gd.y6 (o:=.H2 .B0) (ob:={O2:=.U0 "dict",L3:=.H2 #[]}) (tk:=tk) ⟨[],O1.PR.OB _,O⟩;exact⟨h.1,h.2,rD _,G6 w6 (w3 O).Y3⟩
theorem XK0{h:O1}{l:PV}{U2:P0 (C1×K0)}(r:S8 G h l U2)(hn:HA l=I0):U2=[]:=by
 cases l using P3 with
 |B0=>exact r
 |kv=>contradiction
 |_=>exact VI
theorem U40{i:C0}{d:PV}{P:PV->K1->Prop}{Q:C0->K1->Prop}(gd:J1 B A G s)(hi:i<I3)(M0:(F1 (Iq i d) (λ _=>W1 (.J0 i)) R1).P1 P Q):
  W0.PR (CD bE kE) (Y2 i) []/\∀U2 h' tk,S8 G W0 d U2->ff (CD bE kE) (Y2 i) U2->TA (Y2 i) W0 h'->Po B RV N2 A G s P (.J0 (Y2 i)) {s with A3:=h',y3:=tk}:=by
 symm;have ob:=UL i hi;change(F1 (λ s=>Eh i d (K8 i) s) (λ _=>W1 (.J0 i)) R1).P1 P Q at M0;have M0:=j6 M0;cases ex:O3 i with
 |H2 l=>
  rw[ex]at ob;have M0:(Eh i d (O3 i) R1).P1 (λ a σ=>(W1 (sA0 i) σ).P1 P Q) Q:=M0;rw[ex]at M0;change((bif HA l then qW i (.H2 d)else F2 70) R1).P1 _ Q at M0;obtain⟨U2,hd,rd⟩:=ob;obtain⟨hn,M0⟩:=EG M0;ext;cases XK0 rd hn;refine⟨hd,λ U2 h' tk rk aA hs=>?_⟩;symm;obtain⟨oD,_,_,eD,cD,_⟩:=id hd;have Q0:zB E5 W0 h':=λ b vs n _ e=>(hs.2 b (by rintro O;rw[eD]at e;obtain O:=H3 e;exact T3 cD.1 (by simp))).V2 e;have T7:vE B (aI i (.H2 d)) h' (Y2 i) (.H2 d):=⟨U2,aA,rk.D5 (Tn i _) Q0⟩;obtain⟨g',st⟩:=dz (h':=h') (tk:=tk) (i:=i) (o:=.H2 d) hi (by rw[ex];simp) (by simp) (λ _ e=>by rw[ex]at e;contradiction) (λ b o hb e=>(hs.2 b hb).V2 e) T7;ext;exact .at (R:=RV) (a:=.J0 i) st g' ⟨hi,O⟩ M0
 |_=>
  have M0:(Eh i d (O3 i) R1).P1 (λ a σ=>(W1 (sA0 i) σ).P1 P Q) Q:=M0;rw[ex]at M0;exact B4
theorem YK0(H:x7 B g cl n ih)(X:F5 B n A N0 L O0 G s){ks:P0 (Q1 v0)}{vs:P0 v0}{C2:Q3}(hf:EY ks vs=I0):
  U4 B RV N2 A (b10 ih (DY (cE g cl k L) ks vs) O0) (M5 (.Qn ks vs C2) N0) G s:=by
 intro P Q M0;simp only[EY,N5,EH,C0.beq_eq]at hf;obtain⟨⟨hl,bH⟩,ha⟩:=hf;obtain⟨g1,D2,r1⟩:=VB.newDict (tk:=X4);have M0:(F1 (SM ih O0 (DY (cE g cl k L) ks vs)) (λ vs=>F1 (w5 70 (Nm vs .B0)) λ d=>F1 (Iq I3 d) λ _=>W1 (.J0 I3)) (iL (.H2 .B0))).P1 P Q:=j6 M0;have rho:(o7 (.H2 .B0) P2).ρ I3=P2:=w3 O;by_cases h0:ks=[]
 ·subst h0;cases vs using c5 with
  |A0=>contradiction
  |B0=>
   refine wpAny_Dict_empty ?_;obtain⟨hd,N6⟩:=U40 (d:=.B0) g1 r1.1 M0;have:=N6 [] _ X4 O hd (TA.L5 ..);rw[rho]at J2;exact J2.H8 D2
 ·refine wpAny_Dict_any ha hl h0 (by exact Ts ‹_›) ?_;refine(VK0 H ha hl (GC D2 g1)).IE D2 M0 λ G2 s2 p zs I2 V9 g2 r2 A5=>?_;obtain⟨d,hd,uA⟩:=r9 (j6 A5);have ZK0:vW I3=P2:=(V9.BE _ r1.1).V2 rho;obtain⟨hdo,N6⟩:=U40 g2 (U8 r1.1 GB0) uA;rw[ZK0]at hdo N6;obtain⟨U2,hc,hk,hnd⟩:=WK0 (K3:=bE) (w:=kE) (d:=.B0) (M3:=[]) r2.2 O vb hd;refine wpAny_storeAll (lC:=CD bE kE) zs U2 [] s2 _ hc hdo (by rw[hc.L7,r2.1,HI,qT];omega) λ h' dX LD=>?_;exact(N6 _ h' _ hk dX LD).H8 I2
end
end
end
section
section
open PyProof.Rows
variable{B:Bs}
theorem M.eW0{α β γ:Type}{m:M α}{f:α->M β}{g:β->M γ}{σ:K1}{P:γ->K1->Prop}{X:C0->K1->Prop}:(F1 (F1 m f) g σ).P1 P X↔(F1 m (λ a=>F1 (f a) g) σ).P1 P X:=by
 rw[mo,mo,mo];exact⟨Jf (λ a s h=>WZ h) (λ _ _ h=>h),Jf (λ a s h=>j6 h) (λ _ _ h=>h)⟩
theorem BK{α β:Type}{m:M α}{f g:α->M β}{σ:K1}{P:β->K1->Prop}{X:C0->K1->Prop}(h:(F1 m f σ).P1 P X)(k:∀a σ,(f a σ).P1 P X->(g a σ).P1 P X):(F1 m g σ).P1 P X:=
 WZ (Jf (λ a s q=>k a s q) (λ _ _ q=>q) (j6 h))
section
variable{g:Nat->Option PV}{cl:Nat->Nat}{n:Nat}{ih:B5}{FZ:Nat->Bool}{T:Tab}
variable{A:Around}{cenv:Env}{L:Kinds}{env:PV}{G:Gh}{s:Shared}{k:Nat}
theorem qT0{M:UB}{Q Q':K0->D1->Prop}{E E':K0->D1->Prop}(h:V0 M A (J4 EF) Q E s)(k:Q .H0 s->Q' .H0 s):V0 M A (J4 EF) Q' E' s:=λ Γ p Sg=>k (h Γ p Sg)
theorem Xu{j:C0}{p:Q3}:M5 (.G8 .H0 j p) N0=J4 .H0:=O
theorem aK0{op:eE}{r:v0}(h:ny r=R0):Pv op r=R0:=by cases r using Z9<;>first|rfl|contradiction
inductive Jz:eE->Q1 bG->Prop
 |no op:Jz op H0
 |E6 o(h1:o≠.cG)(h2:o≠.mE):Jz (Mc o) (E0 o)
theorem bK0(op:eE):Jz op (Sq op):=by
 cases op using eE.W9 with
 |Eq=>exact .E6 .eq nofun nofun
 |ly=>exact .E6 .ne nofun nofun
 |In=>exact .E6 .e8 nofun nofun
 |my=>exact .E6 .pI nofun nofun
 |Gt=>exact .E6 .gt nofun nofun
 |Lt=>exact .E6 .lt nofun nofun
 |Pg=>exact .E6 .ge nofun nofun
 |_=>exact .no _
def Mj(f:v0->C)(l r:v0)(op:eE)(q:C):Prop:=q=.M2\/∃o c,q=.S1 o (f l) c/\op=Mc o/\Pv op r=R0/\((c=f r/\o≠.cG/\o≠.mE)\/(c=.u0 .H0/\∃j p,r=.G8 .H0 j p))
theorem cK0{f:v0->C}{l r:v0}{op:eE}:Mj f l r op (Tq f l op r):=by
 unfold Tq;cases hs:ny r with
 |I0=>exact .S2 O
 |R0=>
  have q:=bK0 op;generalize Sq op=o at q;cases q with
  |no=>exact .S2 O
  |E6 o h1 h2=>exact .L2 ⟨o,f r,O,O,aK0 hs,.S2 ⟨O,h1,h2⟩⟩
theorem V40{f:v0->C}{l r:v0}{op:eE}:Mj f l r op (Ab f l op r):=by
 cases op using eE.W9 with
 |Is=>
  show Mj f l r .Is (bif UM r then _ else _);have q:=Uq r;generalize UM r=b at q;cases q with
  |no=>exact .S2 O
  |E6 j p=>exact .L2 ⟨.cG,.u0 .H0,O,O,O,.L2 ⟨O,j,p,O⟩⟩
 |Zm=>
  show Mj f l r .Zm (bif UM r then _ else _);have q:=Uq r;generalize UM r=b at q;cases q with
  |no=>exact .S2 O
  |E6 j p=>exact .L2 ⟨.mE,.u0 .H0,O,O,O,.L2 ⟨O,j,p,O⟩⟩
 |_=>exact cK0
theorem W40{γ:Type}(H:x7 B g cl n ih)(X:F5 B n A N0 L O0 G s){l r:v0}{o:bG}{c:C}(hc:(c=cE g cl k L r/\o≠.cG/\o≠.mE)\/(c=.u0 .H0/\∃j p,r=.G8 .H0 j p))
  {f:I1->M γ}{P:γ->K1->Prop}{Q:C0->K1->Prop}{K:K0->D1->Prop}
  (M0:(F1 (P5 (cE g cl k L l) O0) (λ x=>F1 (P5 c O0) λ y=>F1 (S1 o x y) f) R1).P1 P Q)
  (hK:∀G' s' t,Z2 B N2 G s G' s'->J1 B A G' s'->(f t tF).P1 P Q->K (.N3 t) s'):
  V0 R2 A (M5 l N0) (λ a M6=>V0 R2 A (M5 r N0) (λ b q9=>V0 R2 A (RN (Mc o) a b) K (Px B N2 A G s Q) q9) (Px B N2 A G s Q) M6) (Px B N2 A G s Q) s:=by
 refine(H X).q8 M0 λ G1 s1 x v D2 g1 rx D4=>?_;have N6:∀G2 s2 y w,Z2 B N2 G s G2 s2->Z2 B N2 G1 s1 G2 s2->J1 B A G2 s2->F3 G2 IN y w->((o=.cG\/o=.mE)->w=.H0)->(F1 (S1 o x y) f QR).P1 P Q->V0 R2 A (RN (Mc o) v w) K (Px B N2 A G s Q) s2:=λ G2 s2 y w I2 V9 g2 ry hn A5=>by
  refine(MJ0 (F:=N2) X.cu g2 (IX V9) ry hn).IE I2 A5 λ G3 s3 t u S5 _ g3 e uA=>?_;cases e;exact hK G3 s3 t S5 g3 uA
 rcases hc with⟨O,h1,h2⟩|⟨O,j,p,O⟩
 ·refine(H (GC D2 g1)).IE D2 D4 λ G2 s2 y w I2 V9 g2 ry A5=>N6 G2 s2 y w I2 V9 g2 ry (λ h=>?_) A5;rcases h with h|h
  ·exact T3 h h1
  ·exact T3 h h2
 ·have sn:=(H (k:=1) (L:=L) (e:=.G8 .H0 j p) (GC D2 g1)) _ _ (j6 D4);rw[Xu]at sn ⊢;refine qT0 sn λ⟨G2,y,st,g2,ry,A5⟩=>N6 G2 s1 y .H0 (AC st) st g2 ry (λ _=>O) A5
theorem dK0(H:x7 B g cl n ih)(X:F5 B n A N0 L O0 G s){l r:v0}{op:eE}{C2:Q3}:
  U4 B RV N2 A (nE FZ T ih (Ab (cE g cl k L) l op r) O0) (M5 (.RP l [op] [r] C2) N0) G s:=by
 rcases V40 (f:=cE g cl k L) (l:=l) (op:=op) (r:=r)with h|⟨o,c,h,O,hm,hc⟩
 ·rw[h];exact BD
 ·rw[h];intro P Q M0;refine YT0 (W40 H X hc (f:=λ t=>W1 (PV.N3 t)) M0 λ G' s' t st g' hp=>?_) hm;exact .at (R:=RV) (a:=.N3 t) st g' O hp
theorem eK0(H:x7 B g cl n ih)(X:F5 B n A N0 L O0 G s){l r:v0}{op:eE}{C2:Q3}{L_:X7 K0}:
  U4 B RT N2 A (F1 (nE FZ T ih (Ab (cE g cl k L) l op r) O0) iC) (SH (.RP l [op] [r] C2) N0 L_) G s:=by
 rcases V40 (f:=cE g cl k L) (l:=l) (op:=op) (r:=r)with h|⟨o,c,h,O,hm,hc⟩
 ·rw[h];exact λ P Q M0=>B4
 ·rw[h];intro P Q M0;have M0:(F1 (P5 (cE g cl k L l) O0) (λ x=>F1 (P5 c O0) λ y=>F1 (S1 o x y) λ t=>W1 t) R1).P1 P Q:=by
   refine BK (AB M0) λ x σ h=>BK (AB h) λ y σ h=>BK (AB h) λ t σ h=>h
  refine L80 (W40 H X hc (f:=λ t=>W1 t) M0 λ G' s' t st g' hp=>zi ?_) hm;exact .at (R:=RT) (a:=t) st g' O hp
theorem si{M:UB}{o:v0}{Z1:C1}{L_:X7 K0}{Q:K0->D1->Prop}{E:K0->D1->Prop}(h:zA "__class__"≠E0 .i7)(hw:V0 M A L_ Q E s):
  V0 M A (rT0 o Z1 N0 L_) Q E s:=by
 cases o with
 |B7 f L1 OA p=>
  cases f with
  |Z3 id q=>
   cases L1 using c5 with
   |B0=>
    cases OA using c5 with
    |B0=>
     have:(id !="super"||Z1=="__class__"||zA "super"!=E0 .LL||zA "__class__"!=E0 .i7)=I0:=by
      have:(zA "__class__"!=E0 .i7)=I0:=xU0.B8 h;rw[J2,I1.or_true]
     unfold rT0;dsimp only;rw[w3 J2];first|exact hw|exact S0 (U3 hw (λ _ _ q=>E2 q) λ _ _ q=>q)
    |A0=>exact hw
   |A0=>exact hw
  |_=>exact hw
 |_=>exact hw
theorem fK0(CT:XD B T)(ON:xE)(H:x7 B g cl n ih)(X:F5 B n A N0 L O0 G s){o:v0}{x:C1}{C2:Q3}(hx:kD x=I0):
  U4 B RV N2 A (F1 (P5 (cE g cl k L o) O0) λ ov=>pt T ov (vc x)) (M5 (.yC o x C2) N0) G s:=by
 intro P Q M0;refine S0 (si SB.Ti ((H X).q8 M0 λ G1 s1 ov v D2 g1 r1 D4=>?_));refine S0 (yA (S0 (z7 (U3 ((yJ0 (F:=N2) CT ON hx g1 r1).H8 D2 D4) (λ r s2 h2=>?_) λ _ _ q=>q))));exact S0 (R80 (E2 h2))
theorem eY{value i:v0}{C2:Q3}{Q E:K0->D1->Prop}(h:V0 R2 A (M5 value N0) (λ o M6=>V0 R2 A (M5 i N0) (λ iv q9=>aY B A o iv Q E q9) E M6) E s):
  V0 R2 A (M5 (.xC value i C2) N0) Q E s:=by
 refine S0 (U3 h (λ o M6 j5=>S0 (z7 (U3 j5 (λ iv q9 r7=>S0 (yA ?_)) λ _ _ x=>x))) λ _ _ x=>x);obtain⟨T,id,hT,hl,hq⟩:=r7;refine S0 ?_;refine S0 (Fk hT hl ?_);have e:∃vs,subscripted i R0 o iv=Im vs (XR o iv):=by
  have h1:∃vs,Im [iv,o] (XR o iv)=Im vs (XR o iv):=⟨_,O⟩;have h2:∃vs,Im [o,iv] (XR o iv)=Im vs (XR o iv):=⟨_,O⟩;cases i with
  |jW a b c p=>cases c<;>first|exact h1|exact h2
  |_=>exact h2
 obtain⟨vs,e⟩:=e;refine E2 (S0 ?_);rw[e];exact wpAny_operating (U3 hq (λ r JD c8=>S0 (R80 (E2 c8))) λ _ _ x=>x)
theorem gK0(H:x7 B g cl n ih)(X:F5 B n A N0 L O0 G s){o i:v0}{C2:Q3}:
  U4 B RV N2 A (Y10 ih (cE g cl k L o) (cE g cl k L i) O0) (M5 (.xC o i C2) N0) G s:=by
 intro P Q M0;refine eY ((H X).q8 M0 λ G1 s1 x v D2 g1 rx D4=>?_);refine(H (GC D2 g1)).IE D2 D4 λ G2 s2 y w I2 V9 g2 ry A5=>?_;obtain⟨T,id,h1,h2,h3⟩:=jt (F:=N2) g2 (IX V9) ry A5;exact⟨T,id,h1,h2,U3 h3 (λ _ _ h=>OJ I2) λ _ _ h=>OJ I2⟩
theorem X40(H:x7 B g cl n ih)(X:F5 B n A N0 L O0 G s){e:Q1 v0}:U4 B RV N2 A (P5 (PX (cE g cl k L) e) O0) (evalPart e N0) G s:=by
 cases e using Y9 with
 |E0 e=>rw[evalPart_some];exact H X
 |H0=>
  have:=H (k:=1) (L:=L) (e:=.G8 .H0 0 default) X;rw[Xu]at J2;exact J2
theorem hK0(H:x7 B g cl n ih)(X:F5 B n A N0 L O0 G s){o:v0}{lo hi:Q1 v0}{p C2:Q3}:
  U4 B RV N2 A (a10 ih (cE g cl k L o) (PX (cE g cl k L) lo) (PX (cE g cl k L) hi) O0) (M5 (.xC o (.jW lo hi H0 p) C2) N0) G s:=by
 intro P Q M0;refine eY ((H X).q8 M0 λ G1 s1 x v D2 g1 rx D4=>?_);refine eU0 ((X40 H (GC D2 g1)).IE D2 D4 λ G2 s2 y w I2 V9 g2 ry A5=>?_);refine(X40 H (GC I2 g2)).IE I2 A5 λ G3 s3 z u S5 mD g3 rz uA=>?_;refine E2 ?_;obtain⟨g4,sA⟩:=g3.rB (h':=s3.so {O2:=.U0 "slice",L3:=.R5 #[w,u,.H0]}) (tk:=s3.y3) (λ b o e=>rA _ _ _ _ e);obtain⟨T,id,h1,h2,h3⟩:=eJ0 (F:=N2) g4 (((IX V9).J6 mD).J6 sA) ((ry.J6 mD).J6 sA) (rz.J6 sA) (MU0 HB0 w u .H0) uA;exact⟨T,id,h1,h2,U3 h3 (λ _ _ h=>OJ (Yn sA)) λ _ _ h=>OJ (Yn sA)⟩
theorem iK0(X:F5 B n A N0 L O0 G s){i:A2}{j:C0}{p C2:Q3}:U4 B RV N2 A (W1 (.j0 (-i))) (M5 (.ZD .oP (.G8 (.j0 i) j p) C2) N0) G s:=by
 intro P Q M0;refine Ev (ui (eM.TA0 ?_));obtain⟨g1,D2⟩:=X.KJ (X4+1+1);exact .at (R:=RV) (a:=.j0 (-i)) D2 g1 ⟨_,O⟩ M0
theorem jK0(H:x7 B g cl n ih)(X:F5 B n A N0 L O0 G s){o:v0}{j:C0}{p q r C2:Q3}:
  U4 B RV N2 A (F1 (P5 (cE g cl k L o) O0) uP) (M5 (.xC o (.jW H0 H0 (E0 (.ZD .oP (.G8 (.j0 1) j p) q)) r) C2) N0) G s:=by
 intro P Q M0;refine eY ((H X).q8 M0 λ G1 s1 x v D2 g1 rx D4=>?_);refine eU0 ?_;refine E2 (E2 ?_);refine Ev (ui (eM.TA0 ?_));obtain⟨g4,sA⟩:=tA0 (h':=QL {O2:=.U0 "slice",L3:=.R5 #[.H0,.H0,.j0 (-1) (jA+1)]}) (tk:=jA+1+1) (λ b o e=>rA _ _ _ _ e);obtain⟨T,id,h1,h2,h3⟩:=fJ0 (F:=N2) g4 (IX sA) (MU0 pE .H0 .H0 (.j0 (-1) (jA+1))) D4;exact⟨T,id,h1,h2,U3 h3 (λ _ _ h=>OJ (AC sA)) λ _ _ h=>OJ (AC sA)⟩
end
end
end
section
section
open PyProof.Rows
variable{B:Bs}
section
variable{g:Nat->Option PV}{cl:Nat->Nat}{n:Nat}{ih:B5}{FZ:Nat->Bool}{T:Tab}
variable{A:Around}{cenv:Env}{L:Kinds}{env:PV}{G:Gh}{s:Shared}{k:Nat}
theorem Nj{v:PV}{σ:K1}{β:Type}{f:I1->M β}{P:β->K1->Prop}{X:C0->K1->Prop}(h:(F1 (iC v) f σ).P1 P X):∃t,iC v σ=.x8 t σ/\(f t σ).P1 P X:=by
 have T7:(∃t,iC v σ=.x8 t σ)\/∃w,iC v σ=.eJ w:=by
  cases v using P3 with
  |H0=>exact .S2 ⟨_,O⟩
  |N3 b=>exact .S2 ⟨_,O⟩
  |Q0 l=>
   show(∃t,(bif H5 l then W1 (!(HA l))else F2 8) σ=.x8 t σ)\/∃w,(bif H5 l then W1 (!(HA l))else F2 8) σ=I7.eJ w;cases H5 l using n7 with
   |I0=>exact .S2 ⟨_,O⟩
   |R0=>exact .L2 ⟨_,O⟩
  |J0 i=>
   show(∃t,w5 7 (Ua (AA i)) σ=.x8 t σ)\/∃w,w5 7 (Ua (AA i)) σ=I7.eJ w;cases Ua (AA i)using Y9 with
   |E0 t=>exact .S2 ⟨_,O⟩
   |H0=>exact .L2 ⟨_,O⟩
  |_=>exact .L2 ⟨_,O⟩
 rcases T7 with⟨t,e⟩|⟨w,e⟩
 ·refine⟨t,e,?_⟩;have:=j6 h;rw[e]at J2;exact J2
 ·have:=j6 h;rw[e]at J2;exact J2.HB
theorem kK0{op:nB}{l:P0 v0}{C2:Q3}:cE g cl (k+1) L (.nB op l C2)=ZI (cE g cl k L) op l:=O
theorem lK0(H:x7 B g cl n ih)(X:F5 B n A N0 L O0 G s){op:nB}{e e':v0}{r:P0 v0}{C2:Q3}:
  U4 B RV N2 A (nE FZ T ih (ZI (cE g cl k L) op (e::e'::r)) O0) (M5 (.nB op (e::e'::r) C2) N0) G s:=by
 intro P Q M0;have I4:∀{G' s'},Z2 B N2 G s G' s'->J1 B A G' s'->(P5 (ZI (cE g cl k L) op (e'::r)) O0 tF).P1 P Q->V0 R2 A (boolOp C2 op (M5 e' N0::evalEach r N0)) (Po B RV N2 A G s P) (Px B N2 A G s Q) s':=λ{G' s'} st gd h=>by
  rw[<-kK0 (C2:=C2)]at h;have:=(H (k:=k+1) (e:=.nB op (e'::r) C2) (GC st gd)).H8 st h;rw[IT0,nS0]at J2;exact J2
 cases op using nB.W9 with
 |DM=>
  have M0:(F1 (P5 (cE g cl k L e) O0) (λ v=>F1 (iC v) λ t=>RI t (P5 (ZI (cE g cl k L) .DM (e'::r)) O0) (W1 v)) R1).P1 P Q:=M0;refine S0 ((H X).q8 M0 λ G1 s1 x v D2 g1 rx D4=>S0 (yA (S0 (z7 ?_))));obtain⟨t,ht,A5⟩:=Nj D4;refine U3 (Dj (F:=N2) g1 rx (λ a σ=>a=t/\σ=mF) (λ _ _=>I6) (by rw[ht];exact⟨O,O⟩)) (λ b s2 ⟨G2,a,I2,g2,rb,ha,FM⟩=>?_) (λ _ _ h=>by obtain⟨_,_,_,_,_,h⟩:=h;exact V4);cases rb;subst ha;rw[<-FM]at A5;cases b using n7 with
  |I0=>exact I4 (AC I2) g2 A5
  |R0=>exact E2 (.at (R:=RV) (a:=x) (AC I2) g2 (IX I2) A5)
 |Or=>
  have M0:(F1 (P5 (cE g cl k L e) O0) (λ v=>F1 (iC v) λ t=>RI t (W1 v) (P5 (ZI (cE g cl k L) .Or (e'::r)) O0)) R1).P1 P Q:=M0;refine S0 ((H X).q8 M0 λ G1 s1 x v D2 g1 rx D4=>S0 (yA (S0 (z7 ?_))));obtain⟨t,ht,A5⟩:=Nj D4;refine U3 (Dj (F:=N2) g1 rx (λ a σ=>a=t/\σ=mF) (λ _ _=>I6) (by rw[ht];exact⟨O,O⟩)) (λ b s2 ⟨G2,a,I2,g2,rb,ha,FM⟩=>?_) (λ _ _ h=>by obtain⟨_,_,_,_,_,h⟩:=h;exact V4);cases rb;subst ha;rw[<-FM]at A5;cases b using n7 with
  |R0=>exact I4 (AC I2) g2 A5
  |I0=>exact E2 (.at (R:=RV) (a:=x) (AC I2) g2 (IX I2) A5)
theorem mK0{m:M PV}{e:v0}(h:U4 B RV N2 A m (M5 e N0) G s)(he:SH e N0 (M5 e N0)=(do let v <-M5 e N0;QI e.C2;QH [v] (YA0 v))):
  U4 B RT N2 A (F1 m iC) (SH e N0 (M5 e N0)) G s:=by
 intro P Q M0;refine isTrue_plain ?_ he;exact h.q8 M0 λ G1 s1 x v D2 g1 rx D4=>(Dj g1 rx).H8 D2 D4
theorem nK0(H:cQ B g cl n ih)(X:F5 B n A N0 L O0 G s){e:v0}{C2:Q3}{w:X7 K0}:
  U4 B RT N2 A (F1 (F1 (LC ih (cE g cl k L e) O0) λ t=>W1 (.N3 (!t))) iC) (SH (.ZD .XX e C2) N0 w) G s:=by
 intro P Q M0;refine isTrue_not ((H X).q8 (AB M0) λ G1 s1 t b D2 g1 rb D4=>?_);cases rb;exact .at (R:=RT) (a:=!t) D2 g1 O D4
theorem oK0(H:cQ B g cl n ih)(X:F5 B n A N0 L O0 G s){c a b:v0}{C2:Q3}{w:X7 K0}:
  U4 B RT N2 A (F1 (F1 (LC ih (cE g cl k L c) O0) λ t=>RI t (P5 (cE g cl k L a) O0) (P5 (cE g cl k L b) O0)) iC) (SH (.SU c a b C2) N0 w) G s:=by
 intro P Q M0;refine isTrue_IfExp ((H X).q8 (AB M0) λ G1 s1 t b' D2 g1 rb D4=>?_);cases rb;cases t using n7 with
 |I0=>exact(H (GC D2 g1)).H8 D2 D4
 |R0=>exact(H (GC D2 g1)).H8 D2 D4
theorem pK0(H:cQ B g cl n ih)(X:F5 B n A N0 L O0 G s){e e':v0}{r:P0 v0}{C2:Q3}{w:X7 K0}:
  U4 B RT N2 A (F1 (nE FZ T ih (ZI (cE g cl k L) .DM (e::e'::r)) O0) iC) (SH (.nB .DM (e::e'::r) C2) N0 w) G s:=by
 intro P Q M0;have M0:(F1 (LC ih (cE g cl k L e) O0) (λ t=>RI t (LC ih (ZI (cE g cl k L) .DM (e'::r)) O0) (W1 R0)) R1).P1 P Q:=by
  have h1:(F1 (F1 (P5 (cE g cl k L e) O0) (λ v=>F1 (iC v) λ t=>RI t (P5 (ZI (cE g cl k L) .DM (e'::r)) O0) (W1 v))) iC R1).P1 P Q:=M0;refine M.eW0.B8 (BK (AB h1) λ v σ h=>?_);obtain⟨t,ht,h2⟩:=Nj (AB h);refine WZ ?_;rw[ht];cases t using n7 with
  |I0=>exact h2
  |R0=>
   have h3:(iC v σ).P1 P Q:=h2;rw[ht]at h3;exact h3
 refine isTrue_and ((H X).q8 M0 λ G1 s1 t b' D2 g1 rb D4=>?_);cases rb;cases t using n7 with
 |I0=>exact(H (k:=k+1) (e:=.nB .DM (e'::r) C2) (GC D2 g1)).H8 D2 D4
 |R0=>exact .at (R:=RT) (a:=R0) D2 g1 O D4
theorem qK0(H:cQ B g cl n ih)(X:F5 B n A N0 L O0 G s){e e':v0}{r:P0 v0}{C2:Q3}{w:X7 K0}:
  U4 B RT N2 A (F1 (nE FZ T ih (ZI (cE g cl k L) .Or (e::e'::r)) O0) iC) (SH (.nB .Or (e::e'::r) C2) N0 w) G s:=by
 intro P Q M0;have M0:(F1 (LC ih (cE g cl k L e) O0) (λ t=>RI t (W1 I0) (LC ih (ZI (cE g cl k L) .Or (e'::r)) O0)) R1).P1 P Q:=by
  have h1:(F1 (F1 (P5 (cE g cl k L e) O0) (λ v=>F1 (iC v) λ t=>RI t (W1 v) (P5 (ZI (cE g cl k L) .Or (e'::r)) O0))) iC R1).P1 P Q:=M0;refine M.eW0.B8 (BK (AB h1) λ v σ h=>?_);obtain⟨t,ht,h2⟩:=Nj (AB h);refine WZ ?_;rw[ht];cases t using n7 with
  |R0=>exact h2
  |I0=>
   have h3:(iC v σ).P1 P Q:=h2;rw[ht]at h3;exact h3
 refine isTrue_or ((H X).q8 M0 λ G1 s1 t b' D2 g1 rb D4=>?_);cases rb;cases t using n7 with
 |R0=>exact(H (k:=k+1) (e:=.nB .Or (e'::r) C2) (GC D2 g1)).H8 D2 D4
 |I0=>exact .at (R:=RT) (a:=I0) D2 g1 O D4
def JT(M:UB)(s:D1)(f:K0):Prop:=∀(A:B6)(Q:Um->D1->Prop)(E:K0->D1->Prop),(∀k,(k=Um.DD\/k=Um.machine\/k=Um.boundFrame)->Q k s)->V0 M A (lV0 f) Q E s
def Oj(B:Bs)(E:B5):Prop:=∀{A:B6}{G:Gh}{s:D1}{f L1:PV}{fv:K0}{P:PV->K1->Prop}{X:C0->K1->Prop},J1 B A G s->F3 G W0 f fv->(E.K2 f L1 R1).P1 P X->JT R2 s fv
theorem iV{M:UB}{id:U6}:JT M s (.Z4 id):=λ A Q E h=>E2 (h _ (.L2 (.S2 O)))
theorem wI{M:UB}{C2:Q3}{f:K0}{om:P0 K0}{Q:K0->D1->Prop}{E:K0->D1->Prop}{L1:P0 (I1×X7 K0)}{By:P0 (Q1 C1×X7 K0)}(hplain:(L1.K4 (·.1)||By.K4 (·.1.aE))=R0)
  (h:V0 M A (mV0 f I0 L1 By) (λ a M6=>JT M M6 f/\V0 M A (K2 f (om++a.C2) a.kw) Q E M6) E s):V0 M A (nV0 C2 f om L1 By) Q E s:=by
 unfold nV0;refine S0 (z7 (U3 h (λ a M6 j5=>S0 (yA ?_)) λ _ _ x=>x));rw[hplain];have w7:∀{t:X7 K0},V0 M A t Q E M6->V0 M A (t>>=λ r=>QH [r] point>>=λ _=>J4 r) Q E M6:=
  λ ht=>S0 (U3 ht (λ r q9 hr=>S0 (z7 (O90 (E2 hr)))) λ _ _ x=>x)
 have marked(mk:K0):V0 M A (yU0 mk f (om++a.C2) a.kw) Q E M6:=by unfold yU0;exact Calls.wpAny_keep j5.2
 refine S0 (j5.1 A _ _ λ k IM=>?_);rcases IM with O|O|O<;>dsimp only<;>first|exact w7 j5.2|(split<;>first|exact w7 j5.2|exact w7 (marked _))
theorem BL{L1:P0 v0}{C2:Q3}(h:Xf P8=I0):(A_ C2 (JU L1 N0)).K4 (·.1)=R0:=by
 induction L1 with
 |B0=>rfl
 |A0 e r ih=>
  simp -u4 only[Hc,N5]at h;rw[vI h.1];exact ih h.2
theorem rK0{L1:P0 v0}{C2:Q3}(h:Xf P8=I0):(A_ C2 (JU L1 N0)).ZA (!·.1)=I0:=by
 induction L1 with
 |B0=>rfl
 |A0 e r ih=>
  simp -u4 only[Hc,N5]at h;rw[vI h.1];exact ih h.2
theorem zI{M:UB}{f:K0}{L1:P0 v0}{C2:Q3}{Q:Args->D1->Prop}{E:K0->D1->Prop}(h:Xf P8=I0)(hs:V0 M A (Jy (A_ C2 (JU L1 N0))) (λ vs s'=>Q ⟨vs,[]⟩ s') E s):
  V0 M A (mV0 f I0 (A_ C2 (JU L1 N0)) []) Q E s:=by
 cases L1 using c5 with
 |B0=>
  show V0 M A (Jy []>>=_) Q E s;refine S0 (U3 hs (λ vs s' h'=>?_) λ _ _ x=>x);refine z7 ?_;exact S0 (E2 (S0 (E2 (E2 h'))))
 |A0 e r=>
  simp -u4 only[Hc,N5]at h;rw[vI h.1]at hs ⊢;exact evalArgs_plain hs
theorem fY{L1:P0 v0}(h:vB L1=I0):L1.L7<12/\Xf P8=I0:=by
 simpa -u4 [vB,EH]using h
theorem sK0(H:x7 B g cl n ih)(HC:jO B n ih)(HK:Oj B ih)(X:F5 B n A N0 L O0 G s){x:C1}{p q:Q3}{L1:P0 v0}(hf:vB L1=I0):
  U4 B RV N2 A (Hq ih (cE g cl k L (.Z3 x p)) (Q8 (cE g cl k L) L1) O0) (M5 (.B7 (.Z3 x p) L1 [] q) N0) G s:=by
 intro P Q M0;obtain⟨h1,h2⟩:=fY hf;refine mM ((H X).q8 M0 λ G1 s1 fp fv D2 g1 rf D4=>?_);refine wI (by rw[BL h2];rfl) (zI h2 ?_);refine(Lj H (C2:=q) (GC D2 g1)).IE D2 D4 λ G2 s2 ps vs I2 V9 g2 r2 A5=>?_;exact⟨HK g2 (L00 V9) A5,(HC aD g2 (L00 V9) r2.1).H8 I2 A5⟩
def Yu(B:Bs)(FZ:C0->I1)(n:C0):Prop:=∀{A:B6}{G:Gh}{s:D1}{m:Mt}{ov L1:PV}{v:K0}{vs:P0 K0},M8 n A->J1 B A G s->F3 G W0 ov v->A4 G W0 L1 vs->
 U4 B RV N2 A (V10 FZ m ov L1) (W7 (.Z4 (Tc m)) (v::vs)) G s
theorem tK0{ih:B5}{m:Mt}{ov L1:PV}{p:PV×PV}(h:p.1≠.H0):W10 FZ ih m ov L1 p=Nf p.1 (jE L1 p.2):=by
 obtain⟨a,b⟩:=p;cases a using P3<;>first|rfl|exact T3 O h
theorem uK0(CT:XD B T)(ON:xE)(PO:Yu B FZ n)(H:x7 B g cl n ih)(HC:jO B n ih)(HK:Oj B ih)(X:F5 B n A N0 L O0 G s){o:v0}{x:C1}{ap p:Q3}{L1:P0 v0}(hf:vB L1=I0)
  (hp:Y1 Vl u_=I0)(hx:kD x=I0):
  U4 B RV N2 A (X10 FZ T ih (FG x) (vc x) (cE g cl k L o) (Q8 (cE g cl k L) L1) O0) (M5 (.B7 (.yC o x ap) L1 [] p) N0) G s:=by
 intro P Q M0;obtain⟨h1,h2⟩:=fY hf;refine S0 (si SB.Ti ((H X).q8 M0 λ G1 s1 ov v D2 g1 rv D4=>S0 (yA ?_)));unfold zU0;have hfm:ZT0 (L1.L7+([]:P0 Keyword).L7) (A_ p (JU L1 N0)) (backToKw p (keywordEach [] N0))=I0:=by
  unfold ZT0;rw[rK0 h2];show(I0&&I0&&DE (L1.L7+0+0<30))=I0;simp -u4;exact BM ‹_› O
 rw[hfm];unfold oV0;refine S0 (z7 ((IK0 (F:=N2) CT ON hx g1 rv).IE D2 D4 λ G2 s2 pq q I2 V9 g2 rm A5=>?_));obtain⟨f,om⟩:=q;refine S0 ?_;rw[w3 (by rw[show(Vl==u_)=I0 by simpa -u4 using L6 hp];rfl)];refine E2 (wI (by rw[BL h2];rfl) (zI h2 ?_));refine(Lj H (C2:=p) (GC I2 g2)).IE I2 A5 λ G3 s3 ps vs S5 mD g3 r3 uA=>?_;rcases rm with⟨e1,e2⟩|⟨e1,rf,rl⟩
 ·cases e2;symm;obtain⟨pa,pb⟩:=pq;have e1:pa=.H0:=e1;subst e1;ext;exact⟨iV,(PO aD g3 ((rv.J6 V9).J6 mD) r3.1).H8 S5 uA⟩
 ·rw[tK0 e1]at uA;exact⟨HK g3 (L00 mD) uA,(HC aD g3 (L00 mD) (Nc (IB0 mD) r3.1)).H8 S5 uA⟩
end
end
end
section
open PyProof.Rows
variable{B:Bs}{A:Around}{G:Gh}{s:Shared}{F:Addr->Prop}{FZ:Nat->Bool}
theorem m_{α:Type}{i:C0}{o:AO}{f:S7->M α}{σ:K1}{P:α->K1->Prop}{X:C0->K1->Prop}(h:(F1 (GE FZ i o) f σ).P1 P X):(f () (VU i o)).P1 P X:=by
 unfold GE at h;cases hz:FZ i with
 |I0=>rw[hz]at h;exact(j6 h).HB
 |R0=>rw[hz]at h;exact h
theorem vK0{vs:P0 K0}{n:C0}(f:L4 K0->L4 K0):∃n',(lB vs n).mapSeq f=lB (f JB).XE n':=by
 obtain⟨n',h⟩:=C4.data_mapSeq (o:=lB vs n) O f;refine⟨n',?_⟩;have h2:=C4.cls_mapSeq (lB vs n) f;unfold FK at h ⊢;exact G6 (λ d=>({O2:=.U0 "list",H2:=H0,L3:=d,IC:=#[]}:C4)) (h.V2 (by simp))
theorem Pj(gd:J1 B A G s){i:C0}{l l':PV}{vs:P0 K0}{n:C0}{f:L4 K0->L4 K0}{tk:O6}(hi:i<I3)(ex:O3 i=.M1 l)(e:E3 (Y2 i)=E0 (lB vs n))(r:A4 G W0 l' (f JB).XE):
  J1 B A (aI i (.M1 l')) {s with A3:=NL (Y2 i) (FK f),y3:=tk}/\Z2 B N2 G s (aI i (.M1 l')) {s with A3:=NL (Y2 i) (FK f),y3:=tk}:=by
 obtain⟨n',hm⟩:=vK0 (vs:=vs) (n:=n) f;have me:(NL (Y2 i) (FK f)).W5 (Y2 i)=E0 (lB (f JB).XE n'):=by
  rw[BH _ e (by rw[hm];rfl),hm]
 have ot:∀b o,b≠Y2 i->E3 b=E0 o->(NL (Y2 i) (FK f)).W5 b=E0 o:=λ b o hb e=>by rw[hM _ _ (E9 hb)];exact e
 have Q0:zB E5 W0 (NL (Y2 i) (FK f)):=λ b nC n _ e'=>ot _ _ (by rintro O;rw[e]at e';injection e' with e';injection e' with e' _ _;simp at e') e';exact dz (tk:=tk) hi (by rw[ex];simp) (by simp) (λ _ e=>by rw[ex]at e;contradiction) ot ⟨_,n',me,UI (Tn i _) Q0⟩
theorem Zu(gd:J1 B A G s){i:C0}{l l':PV}{U2:P0 (C1×K0)}{h':O1}{tk:O6}(hi:i<I3)(ex:O3 i=.H2 l)(r:S8 G W0 l' U2)(hd:ff (CD bE kE) (Y2 i) U2)(hs:TA (Y2 i) W0 h'):
  J1 B A (aI i (.H2 l')) {s with A3:=h',y3:=tk}/\Z2 B N2 G s (aI i (.H2 l')) {s with A3:=h',y3:=tk}:=by
 symm;have ob:=UL i hi;rw[ex]at ob;obtain⟨_,⟨oD,_,_,eD,cD,_⟩,_⟩:=ob;have Q0:zB E5 W0 h':=λ b vs n _ e=>(hs.2 b (by rintro O;rw[eD]at e;obtain O:=H3 e;exact T3 cD.1 (by simp))).V2 e;ext;exact dz (tk:=tk) hi (by rw[ex];simp) (by simp) (λ _ e=>by rw[ex]at e;contradiction) (λ b o hb e=>(hs.2 b hb).V2 e) ⟨U2,hd,UI (Tn i _) Q0⟩
theorem gQ(gd:J1 B A G s){i:C0}{l:PV}(hi:i<I3)(ex:O3 i=.H2 l):R30 B G W0 (Y2 i) l:=by
 have ob:=UL i hi;rw[ex]at ob;exact ob
theorem sM(gd:J1 B A G s){i:C0}{l:PV}(hi:i<I3)(ex:O3 i=.M1 l):Q30 G W0 (Y2 i) l:=by
 have ob:=UL i hi;rw[ex]at ob;exact ob
theorem CL{l:PV}{vs:P0 K0}{h:O1}(r:A4 G h l vs)(hs:H5 l=I0):Q7<=60:=by
 rw[Jc r];exact i6 hs
theorem uM{n:C0}(h:n<=60):n<=XA:=by rw[HI];exact BM ‹_› O
theorem Y40(gd:J1 B A G s){i:C0}{l L1:PV}{vs:P0 K0}(hi:i<I3)(ex:O3 i=.M1 l)(ra:A4 G W0 L1 vs):
  U4 B RV N2 A (Za FZ .SI i l L1) (W7 (.Z4 "list.append") (.J0 (Y2 i)::vs)) G s:=by
 intro P Q M0;cases L1 using P3 with
 |A0 a r=>
  cases r using P3 with
  |B0=>
   obtain⟨x,q,e1,rx,e2⟩:=ra;have e2:q=[]:=e2;subst e1;subst e2;change((bif H5 l then F1 (GE FZ i (.M1 (nR a l))) λ _=>W1 OH else F2 40) R1).P1 P Q at M0;obtain⟨hs,M0⟩:=EG M0;have M0:=m_ M0;obtain⟨ws,n,e,rl⟩:=sM gd hi ex;have hl:W0.Yl (Y2 i) cZ:=M9 e;refine TC uS0 d00 entry_list_append ?_ (args_list_append _ _);show V0 _ _ (ml (Y2 i) (·.y6 x)>>=λ _=>U1 .H0) _ _ s;refine S0 (Hk (hz:=by rw[kF];exact uM (CL rl hs)) (_hz':=by simp only[L4.r70,kF];have:=uM (CL rl hs);exact yJ ‹_›) e O (E2 ⟨.H0,O,?_⟩));obtain⟨g',st⟩:=Pj gd (tk:=X4) (f:=(·.y6 x)) hi ex e (l':=nR a l) (by simpa using OJ0 rl rx);exact .at (R:=RV) (a:=.H0) st g' O M0
  |_=>exact B4
 |_=>exact B4
theorem wK0{α:Type}(ws:P0 α)(v:α):((ws++[v]).N8.a80 ((ws++[v]).N8.L9-1)).XE=ws:=by
 have:(ws++[v]).eraseIdx df=ws:=by
  induction ws with
  |B0=>rfl
  |A0 a r ih=>simpa using ih
 simpa[L4.a80]using J2
theorem xK0(gd:J1 B A G s){i:C0}{l L1:PV}{vs:P0 K0}(hi:i<I3)(ex:O3 i=.M1 l)(ra:A4 G W0 L1 vs):
  U4 B RV N2 A (Za FZ .bK i l L1) (W7 (.Z4 "list.pop") (.J0 (Y2 i)::vs)) G s:=by
 intro P Q M0;cases L1 using P3 with
 |B0=>
  have e1:vs=[]:=ra;subst e1;change((match bif H5 l then Ke l else B2 with|E0 p=>F1 (GE FZ i (.M1 p.1)) λ _=>W1 p.2|B2=>F2 41) R1).P1 P Q at M0;cases hs:H5 l with
  |R0=>rw[hs]at M0;exact B4
  |I0=>
  rw[hs,rZ]at M0;cases hd:Ke l with
  |H0=>rw[hd]at M0;exact B4
  |E0 p=>
   rw[hd]at M0;have M0:=m_ M0;obtain⟨ws,n,e,rl⟩:=sM gd hi ex;have hz:=uM (CL rl hs);obtain⟨us,v,O,ru,rv⟩:=TJ0 rl (q:=p.1) (a:=p.2) (by rw[hd]);refine KR GT0 (M9 e).wC F.entry_list_pop (F.args_list_pop_1 _) (xO.MeetsSeq.list_pop_last (Y2 i) (us++[v]).N8 n v (by simp) (by simpa using hz)) ⟨e,?_⟩;obtain⟨g',st⟩:=Pj gd (tk:=X4) (f:=λ xs=>xs.a80 ((us++[v]).N8.L9-1)) hi ex e (l':=p.1) (by rw[wK0];exact ru);exact .at (R:=RV) (a:=p.2) st g' (rv.J6 st) M0
 |_=>exact B4
theorem au(gd:J1 B A G s){p:PV}{v:K0}(r:F3 G W0 p v){γ:Type}{f:PV->M γ}{P:γ->K1->Prop}{X:C0->K1->Prop}(M0:(F1 (G5 p) f R1).P1 P X):
  ∃b l ws n,v=.J0 b/\(E3 b=E0 (lB ws n)\/E3 b=E0 (E8 ws n)/\p=.Q0 l)/\A4 G W0 l ws/\df<=60/\(f l R1).P1 P X:=by
 cases p using P3 with
 |Q0 l=>
  change(F1 (bif H5 l then W1 l else F2 37) f R1).P1 P X at M0;cases hs:H5 l with
  |R0=>rw[hs]at M0;exact B4
  |I0=>
   rw[hs]at M0;obtain⟨a,ws,n,O,_,e,rl⟩:=r;exact⟨a,l,ws,n,O,.L2 ⟨e,O⟩,rl,CL rl hs,M0⟩
 |J0 i=>
  obtain⟨hi,O⟩:=r;have M0:=j6 M0;change(w5 37 (Q10 (O3 i)) R1).P1 _ X at M0;obtain⟨l,hl,M0⟩:=r9 M0;generalize ex:O3 i=zo at hl;cases zo using EA with
  |M1 l'=>
   change(bif H5 l' then E0 l' else H0)=E0 l at hl;obtain⟨hs,hl⟩:=PC hl;cases hl;obtain⟨ws,n,e,rl⟩:=sM gd hi ex;exact⟨_,l,ws,n,O,.S2 e,rl,CL rl hs,M0⟩
  |_=>contradiction
 |_=>exact(j6 M0).HB
theorem yK0(gd:J1 B A G s){i:C0}{l L1:PV}{vs:P0 K0}(hi:i<I3)(ex:O3 i=.M1 l)(ra:A4 G W0 L1 vs):
  U4 B RV N2 A (Za FZ .dN i l L1) (W7 (.Z4 "list.extend") (.J0 (Y2 i)::vs)) G s:=by
 intro P Q M0;cases L1 using P3 with
 |A0 a r=>
  cases r using P3 with
  |B0=>
   symm;obtain⟨x,q,e1,rx,e2⟩:=ra;have e2:q=[]:=e2;subst e1;subst e2;obtain⟨b,l2,us,m,O,hb,ru,hu,M0⟩:=au gd rx M0;change((bif H5 l then bif H5 l2 then F1 (GE FZ i (.M1 (jE l2 l))) λ _=>W1 OH else F2 42 else F2 42) R1).P1 P Q at M0;obtain⟨hs,M0⟩:=EG M0;obtain⟨hH,M0⟩:=EG M0;have M0:=m_ M0;obtain⟨ws,n,e,rl⟩:=sM gd hi ex;have h1:=CL rl hs;have h0:¬(!cZ.WL&&G80 (ws.wT+us.wT))=I0:=by
    have:G80 (ws.wT+us.wT)=R0:=by
     unfold G80;simp only[kF,I80,o90,w70,ge_iff_le];rw[HI];exact nU ‹_› ‹_› O
    rw[J2];simp
   have N6:(W1 OH (aI i (.M1 (jE l2 l))).σ).P1 P Q:=M0;obtain⟨g',st⟩:=Pj gd (tk:=X4) (f:=λ x=>x++us.N8) hi ex e (l':=jE l2 l) (by simpa using Nc rl ru);ext;rcases hb with hb|⟨hb,_⟩
   ·exact KR Z80 (M9 e).wC WS0 (TS0 _ _) (Oe.list_extend_list_list_0 (Y2 i) cZ n b us.N8 m h0 (by rw[kF];exact uM h1) (by simp only[kF];rw[HI];exact nU ‹_› ‹_› O))
     ⟨e,hb,.at (R:=RV) (a:=.H0) st g' O N6⟩
   ·exact KR Z80 (M9 e).wC WS0 (TS0 _ _) (Oe.list_extend_list_tuple_0 (Y2 i) cZ n b us.N8 m h0 (by rw[kF];exact uM h1) (by simp only[kF];rw[HI];exact nU ‹_› ‹_› O))
     ⟨e,hb,.at (R:=RV) (a:=.H0) st g' O N6⟩
  |_=>exact B4
 |_=>exact B4
theorem gY{l:PV}{U2:P0 (C1×K0)}{h:O1}(r:S8 G h l U2)(hs:H5 l=I0):DK<=60:=Zt r hs
theorem zK0(gd:J1 B A G s){i:C0}{l L1:PV}{vs:P0 K0}(hi:i<I3)(ex:O3 i=.H2 l)(ra:A4 G W0 L1 vs):
  U4 B RV N2 A (aa FZ .l9 i l L1) (W7 (.Z4 "dict.get") (.J0 (Y2 i)::vs)) G s:=by
 intro P Q M0;obtain⟨U2,hd,rd⟩:=gQ gd hi ex;have hsys:=nM gd hi (by rw[ex];simp);cases L1 using P3 with
 |A0 a r=>
  cases a using P3 with
  |Y0 k=>
   cases r using P3 with
   |A0 d r=>
    cases r using P3 with
    |B0=>
     obtain⟨x,q,O,⟨h0,y,t,O,hy⟩,z,q2,O,rz,e2⟩:=ra;have e2:q2=[]:=e2;subst e2 hy;change((W1 ((H4 (vc y) l).gI d):M PV) R1).P1 P Q at M0;obtain⟨g',st⟩:=KJ (X4+1);refine D90 HT0 hd.wC F.entry_dict_get (F.args_dict_get_3 _ _ _) (meets_dict_get_default (CD bE kE) (k:=y) (Y2 i) ZY hsys z) ⟨_,hd.mapOf,?_⟩;rcases vS h0 rd with⟨q1,q2⟩|⟨p,u,q1,q2,ru⟩
     ·rw[q1]at M0;rw[q2];exact .at (R:=RV) (a:=d) st g' (F3.J6 rz st) M0
     ·rw[q1]at M0;rw[q2];exact .at (R:=RV) (a:=p) st g' (NK st) M0
    |_=>exact B4
   |_=>exact B4
  |_=>exact B4
 |_=>exact B4
theorem AL0(gd:J1 B A G s){i:C0}{l L1:PV}{vs:P0 K0}(hi:i<I3)(ex:O3 i=.H2 l)(ra:A4 G W0 L1 vs):
  U4 B RV N2 A (aa FZ .CU i l L1) (W7 (.Z4 "dict.setdefault") (.J0 (Y2 i)::vs)) G s:=by
 intro P Q M0;obtain⟨U2,hd,rd⟩:=gQ gd hi ex;have hsys:=nM gd hi (by rw[ex];simp);cases L1 using P3 with
 |A0 a r=>
  cases a using P3 with
  |Y0 k=>
   cases r using P3 with
   |A0 d r=>
    cases r using P3 with
    |B0=>
     obtain⟨x,q,O,⟨h0,y,t,O,hy⟩,z,q2,O,rz,e2⟩:=ra;have e2:q2=[]:=e2;subst e2 hy;change((bif H5 l then(match H4 (vc y) l with|E0 v=>W1 v|B2=>F1 (GE FZ i (.H2 (z5 (vc y) d l))) λ _=>W1 d)else F2 45) R1).P1 P Q at M0;cases hs:H5 l with
     |R0=>rw[hs]at M0;exact B4
     |I0=>
     rw[hs,rZ]at M0;have nd:=sx hd;refine D90 OS0 hd.wC F.entry_dict_setdefault (F.args_dict_setdefault_3 _ _ _) (kt_meets_setdefault (CD bE kE) (k:=y) (Y2 i) ZY hsys z) ⟨U2,hd,uM (gY rd hs),λ v hv=>?_,λ hn h' dX LD=>?_⟩
     ·obtain⟨g',st⟩:=KJ (X4+1);rcases vS h0 rd with⟨q1,q2⟩|⟨p,u,q1,q2,ru⟩
      ·rw[q2]at hv;contradiction
      ·rw[q1]at M0;rw[q2]at hv;obtain O:=H3 hv;exact .at (R:=RV) (a:=p) st g' (NK st) M0
     ·rcases vS h0 rd with⟨q1,q2⟩|⟨p,u,q1,q2,ru⟩
      ·rw[q1]at M0;have M0:=m_ M0;obtain⟨g',st⟩:=Zu gd (tk:=X4+1) hi ex (Kc h0 rz nd rd) dX LD;exact .at (R:=RV) (a:=d) st g' (F3.J6 rz st) M0
      ·rw[q2]at hn;contradiction
    |_=>exact B4
   |_=>exact B4
  |_=>exact B4
 |_=>exact B4
theorem Z40{h:O1}:∀{r l:PV}{U2 RX:P0 (C1×K0)},(bN (·.1)).GD->S8 G h l U2->S8 G h r RX->S8 G h (ZJ l r) (TK U2 RX):=by
 intro r;induction r with
 |B0=>intro l U2 RX nd rl rr;have rr:RX=[]:=rr;subst rr;exact rl
 |kv k v r _ ih=>
  intro l U2 RX nd rl rr;obtain⟨x,u,q,O,h0,O,rv,rq⟩:=rr;show S8 G h (ZJ (z5 (vc x) v l) r) (TK (NJ U2 x u) q);exact ih (Ru nd).1 (Kc h0 rv nd rl) rq
 |_=>exact λ _ _ rr=>rr.HB
theorem BL0(gd:J1 B A G s){i:C0}{l L1:PV}{vs:P0 K0}(hi:i<I3)(ex:O3 i=.H2 l)(ra:A4 G W0 L1 vs):
  U4 B RV N2 A (aa FZ .GF i l L1) (W7 (.Z4 "dict.update") (.J0 (Y2 i)::vs)) G s:=by
 intro P Q M0;obtain⟨U2,hd,rd⟩:=gQ gd hi ex;cases L1 using P3 with
 |A0 a r=>
  cases a using P3 with
  |J0 j=>
   cases r using P3 with
   |B0=>
    obtain⟨x,q,O,⟨hj,O⟩,e2⟩:=ra;have e2:q=[]:=e2;subst e2;change((bif Y1 i j then F2 46 else λ s=>(match K8 j with
     |.H2 r=>bif H5 l then bif H5 r then F1 (GE FZ i (.H2 (ZJ l r))) λ _=>W1 OH else F2 46 else F2 46
     |_=>F2 46) s) R1).P1 P Q at M0
    cases hij:Y1 i j with
    |I0=>rw[hij]at M0;exact B4
    |R0=>
     rw[hij]at M0;have Y6:=tA hij;change((match O3 j with
      |.H2 r=>bif H5 l then bif H5 r then F1 (GE FZ i (.H2 (ZJ l r))) λ _=>W1 OH else F2 46 else F2 46
      |_=>F2 46) R1).P1 P Q at M0
     generalize ey:O3 j=zo at M0;cases zo using EA with
     |H2 r=>
      change((bif H5 l then bif H5 r then F1 (GE FZ i (.H2 (ZJ l r))) λ _=>W1 OH else F2 46 else F2 46) R1).P1 P Q at M0;obtain⟨hs,M0⟩:=EG M0;obtain⟨hH,M0⟩:=EG M0;have M0:=m_ M0;obtain⟨RX,MO,rd2⟩:=gQ gd hj ey;have h1:=gY rd hs;have h2:=gY rd2 hH;have tH:Y2 i≠Y2 j:=λ e=>Y6 (gd.bp i j hi hj (by rw[ex];simp) (by rw[ey];simp) e);refine D90 cS0 hd.wC F.entry_dict_update (F.args_dict_update_2 _ _) (meets_dict_update (CD bE kE) (Y2 i) (Y2 j) tH (nM gd hj (by rw[ey];simp))) ⟨U2,RX,hd,MO,by rw[HI];exact nU ‹_› ‹_› O,λ h' dX _ LD=>?_⟩;obtain⟨g',st⟩:=Zu gd (tk:=X4) hi ex (Z40 (sx hd) rd rd2) dX LD;exact .at (R:=RV) (a:=.H0) st g' O M0
     |_=>exact B4
   |_=>exact B4
  |_=>exact B4
 |_=>exact B4
end
section
open PyProof.Rows
variable{B:Bs}{A:Around}{G:Gh}{s:Shared}{F:Addr->Prop}{FZ:Nat->Bool}
theorem bu{c n:C0}(h:pC c n≠0):c<1114112:=by
 unfold pC at h;cases hn:Y1 n 0 with
 |I0=>rw[hn]at h;exact T3 O h
 |R0=>
  rw[hn]at h;cases hc:X6 c 1114112 with
  |R0=>rw[hc]at h;exact T3 O h
  |I0=>simpa[EH]using hc
theorem eu{c n:C0}(hn:n≠0)(hc:c<1114112):pC c n=c+1+1114113*n:=by
 unfold pC;rw[rS hn,JH,show X6 c 1114112=I0 by simpa[EH]using hc,rZ];rfl
theorem CL0:∀(k:C0)(l:P0 C0),Z7 l≠0->HJ<=k->vg k (Z7 l)=l:=by
 intro k;induction k with
 |i9=>
  intro l _ h;rw[EQ (C0.le_zero.mp h)];rfl
 |c9 k ih=>
  intro l h hl;cases l using c5 with
  |B0=>rfl
  |A0 c l=>
  have ht:=UY (c:=c) (n:=Z7 l) h;have hc:=bu (c:=c) (n:=Z7 l) h;have h1:Z7 (c::l)≠1:=Ds (c:=c) (n:=Z7 l) h;have e:Z7 (c::l)=c+1+1114113*Z7 l:=eu ht hc;show(bif Y1 (Z7 (c::l)) 1 then[]else(Z7 (c::l)%1114113-1)::vg k (Z7 (c::l)/1114113))=c::l;rw[rS h1,JH,e];have m1:(c+1+1114113*Z7 l)%1114113-1=c:=by exact ω22 ‹_›
  have m2:(c+1+1114113*Z7 l)/1114113=Z7 l:=by exact ω20 ‹_›
  rw[m1,m2,ih l ht (N80 hl)]
theorem a40:∀{l m:P0 C0},Z7 l≠0->Z7 m≠0->Z7 (l++m)≠0:=by
 intro zq;induction zq with
 |B0=>
  intro m _ h;exact h
 |A0 c l ih=>
  intro m h hm;have ht:=UY (c:=c) (n:=Z7 l) h;have hc:=bu (c:=c) (n:=Z7 l) h;show pC c (Z7 (l++m))≠0;rw[eu (ih ht hm) hc];omega
theorem fu:∀l:P0 C0,Z7 l≠0->2^(20*HJ)<=Z7 l:=by
 intro l;induction l with
 |B0=>exact λ _=>A8 _
 |A0 c l ih=>
  intro h;have ht:=UY (c:=c) (n:=Z7 l) h;have hc:=bu (c:=c) (n:=Z7 l) h;have ih:=ih ht;show 2^(20*(HJ+1))<=pC c (Z7 l);rw[eu ht hc,C0.mul_add,C0.pow_add];have:(2:C0)^(20*1)=1048576:=O;exact ω42 ‹_› O
theorem gu{x:C1}(h0:vc x≠0)(h:KS (vc x)=I0):dc (vc x)=gZ:=by
 refine CL0 200 gZ h0 ?_;have h1:=(lw h0).B8 (fu gZ h0);have h2:=i6 h;omega
theorem iu{x:C1}(h0:vc x≠0)(h:KS (vc x)=I0):LK<=195:=by
 have h1:=(lw h0).B8 (fu gZ h0);have h2:=i6 h;have h3:LK=gZ.L7:=by trivial
 exact ω73 ‹_› ‹_›
theorem DL0{x y z:C1}(hx:vc x≠0)(hy:vc y≠0)(hz:vc z≠0)(ox:KS (vc x)=I0)(oy:KS (vc y)=I0)(oz:KS (vc z)=I0):
  wg (vc x) (vc z) (vc y)≠0/\vc (js z [x,y])=wg (vc x) (vc z) (vc y):=by
 unfold wg;rw[gu hx ox,gu hy oy,gu hz oz];refine⟨a40 hx (a40 hz hy),?_⟩;show Z7 ((x.fK++z.fK++y.fK).XE)=_;simp
theorem EL0{h:O1}:∀{l:PV}{vs:P0 K0}{vP n:C0},A4 G h l vs->zX vP l=E0 n->∃ts:P0 (C1×O6),vs=UV0 ts/\∀z:C1,Lg<=vP->((TH (·.1)).Y4 λ x=>LK+Lg).Fa<=n:=by
 intro l;induction l with
 |B0=>intro vs vP n r e;have r:vs=[]:=r;subst r;obtain O:=H3 e;exact⟨[],O,λ _ _=>A8 _⟩
 |A0 a r _ ih=>
  intro vs vP n rl e;obtain⟨v,q,O,rv,rq⟩:=rl;change(match PM a with|E0 n=>(zX vP r).Y4 λ m=>n+vP+m|B2=>B2)=E0 n at e;cases ha:PM a with
  |H0=>rw[ha]at e;contradiction
  |E0 k=>
   rw[ha]at e;cases hr:zX vP r with
   |H0=>rw[hr]at e;contradiction
   |E0 m=>
    rw[hr]at e;have e:E0 (k+vP+m)=E0 n:=e;obtain O:=H3 e;obtain⟨x,t,O,hl⟩:=Ej rv ha;obtain⟨ts,O,hs⟩:=ih rq hr;refine⟨(x,t)::ts,O,λ z hz=>?_⟩;have:=hs z hz;exact ω50 ‹_› ‹_› ‹_›
 |_=>intro _ _ _ r;exact VI
theorem b40(f:C1->C0):∀(l:P0 C1)(a:C0),l.wW (λ n x=>n+f x) a=a+(qP f).Fa:=by
 intro zq;induction zq with
 |B0=>
  intro a;simp
 |A0 x l ih=>
  intro a;rw[fU0,ih];simp;exact Gc _ _ _
theorem FL0(z:C1):∀(l:P0 C1)(M3:L4 C0),(l.wW (λ M3 p=>M3++z.fK++p.fK) M3).L9=V00+(qP λ x=>Lg+LK).Fa:=by
 intro zq;induction zq with
 |B0=>
  intro M3;simp
 |A0 x l ih=>
  intro M3;rw[fU0,ih];simp[C1.L7];exact Gc _ _ _
theorem c40{z:C1}{l:P0 C1}:(js z l).L7<=(qP λ x=>LK+Lg).Fa:=by
 cases l using c5 with
 |B0=>exact A8 _
 |A0 x r=>
  show((r.wW (λ M3 p=>M3++z.fK++p.fK) x.fK).L9)<=_;rw[FL0];have:(rP λ y=>Lg+jL)=rP λ y=>jL+Lg:=P0.map_congr_left λ y _=>pU0 ..;rw[J2];simp[C1.L7]
theorem GL0(gd:J1 B A G s){n:C0}{y:C1}{t:O6}{L1:PV}{vs:P0 K0}(h0:n≠0)(hn:vc y=n)(ra:A4 G W0 L1 vs):
  U4 B RV N2 A (xg .mP n L1) (W7 (.Z4 "str.join") (.Y0 y t::vs)) G s:=by
 subst hn;intro P Q M0;cases L1 using P3 with
 |A0 a r=>
  cases r using P3 with
  |B0=>
   symm;obtain⟨x,q,O,ra1,e2⟩:=ra;have e2:q=[]:=e2;subst e2;change(F1 (G5 a) (λ l=>w5 38 (Yp (vc y) l)) R1).P1 P Q at M0;obtain⟨b,l,ws,k,O,hbb,rl,hs,M0⟩:=au gd ra1 M0;obtain⟨p,hp,hP⟩:=r9 M0;obtain⟨g',st⟩:=KJ (X4+1);have N6:∀(ts:P0 (C1×O6)),ws=UV0 ts->nr ((TH (·.1)).N8.wW (· +·.L7+jL) 0)=R0->F3 G W0 p (.Y0 (js y (TH (·.1))) X4)->(∀z,ts=[z]->F3 G W0 p (.Y0 z.1 z.2))->
     V0 R2 A (W7 (.Z4 "str.join") [.Y0 y t,.J0 b]) (Po B RV N2 A G s P) (Px B N2 A G s Q) s:=λ ts hts hl hv h1=>by
    subst hts;have gl:(js y (TH (·.1))).L7<=XA:=by
     symm;unfold nr at hl;have e:((TH (·.1)).N8.wW (λ(n:C0) (x:C1)=>n+LK+jL) 0)=((TH (·.1)).Y4 λ x=>LK+jL).Fa:=by
      symm;have:=b40 (λ x=>LK+jL) (TH (·.1)) 0;simp only[TW,<-Gc]at J2;ext;rw[<-J2];simp
     rw[e]at hl;have:=c40 (z:=y) (l:=TH (·.1));simp only[o90,I80,w70]at hl;ext;exact W6 ‹_› ‹_›
    rcases hbb with e|⟨e,_⟩
    ·refine KR JT0 (c90 s y t) vS0 (oS0 _ _) (meets_str_join_list y t b ts hl) ⟨M9 e,?_⟩
     match ts,h1,hv,gl with
     |[z],h1,_,_=>exact .CB (R:=RV) (a:=p) gd (h1 z O) hP
     |[],_,hv,gl=>exact⟨by first|exact gl|exact W6 gl (by decide),pN (R:=RV) (a:=p) st g' (M00 st) hP⟩
     |_::_::_,_,hv,gl=>exact⟨gl,pN (R:=RV) (a:=p) st g' (M00 st) hP⟩
    ·refine KR JT0 (c90 s y t) vS0 (oS0 _ _) (meets_str_join_tuple y t b ts hl) ⟨⟨_,_,e,O,O⟩,?_⟩
     match ts,h1,hv,gl with
     |[z],h1,_,_=>exact .CB (R:=RV) (a:=p) gd (h1 z O) hP
     |[],_,hv,gl=>exact⟨by first|exact gl|exact W6 gl (by decide),pN (R:=RV) (a:=p) st g' (M00 st) hP⟩
     |_::_::_,_,hv,gl=>exact⟨gl,pN (R:=RV) (a:=p) st g' (M00 st) hP⟩
   have tl:∀ts:P0 (C1×O6),((TH (·.1)).Y4 λ x=>LK+jL).Fa<=100000->nr ((TH (·.1)).N8.wW (· +·.L7+jL) 0)=R0:=λ ts h=>by
    have e:((TH (·.1)).N8.wW (λ(n:C0) (x:C1)=>n+LK+jL) 0)=((TH (·.1)).Y4 λ x=>LK+jL).Fa:=by
     symm;have:=b40 (λ x=>LK+jL) (TH (·.1)) 0;simp only[TW,<-Gc]at J2;ext;rw[<-J2];simp
    unfold nr;rw[e];have:XA=16777216:=O;simp only[o90,I80,w70];exact BM ‹_› O
   unfold Yp at hp;cases h2:P10 (vc y) l with
   |E0 m=>
    rw[h2]at hp;obtain O:=H3 hp;obtain⟨x0,hx,h2⟩:=OS h2;obtain⟨a,Xo,h2⟩:=OS h2;obtain⟨ha,h2⟩:=PC h2;obtain⟨hy,h2⟩:=PC h2;rw[HQ hx,Ih Xo]at rl;obtain⟨v,q,O,⟨k0,x,tx,O,O⟩,e3⟩:=rl;have l1:=iu k0 ha;have l2:=iu h0 hy;rcases r10 h2 with⟨hn,h2⟩|⟨_,h2⟩
    ·obtain O:=H3 h2;rw[yU hn]at e3;have e3:q=[]:=e3;subst e3;ext;refine N6 [(x,tx)] O (tl _ (by simp;exact nU ‹_› ‹_› O)) ⟨k0,_,_,O,?_⟩ λ z hz=>by cases hz;exact⟨k0,_,_,O,O⟩
     show Z7 (([]:P0 C1).wW (λ M3 p=>M3++y.fK++p.fK) x.fK).XE=_;rfl
    ·obtain⟨y0,hy0,h2⟩:=OS h2;obtain⟨b,hb',h2⟩:=OS h2;obtain⟨hn,h2⟩:=PC h2;obtain⟨hb,h2⟩:=PC h2;obtain O:=H3 h2;rw[HQ hy0,Ih hb',yU hn]at e3;obtain⟨v2,q2,O,⟨k1,x2,tx2,O,O⟩,e3⟩:=e3;have e3:q2=[]:=e3;subst e3;have l3:=iu k1 hb;obtain⟨c1,c2⟩:=DL0 k0 k1 h0 ha hb hy;ext;exact N6 [(x,tx),(x2,tx2)] O (tl _ (by simp;exact ω58 ‹_› ‹_› ‹_›)) ⟨c1,_,_,O,c2⟩ λ z hz=>by cases hz
   |H0=>
    rw[h2]at hp;change(match zX (We (vc y)) l with|E0 n=>Pp n 0|B2=>B2)=E0 p at hp;cases h3:zX (We (vc y)) l with
    |H0=>
     ext;rw[h3]at hp;contradiction
    |E0 m=>
     rw[h3]at hp;change(bif O9 (m+0) 100000 then E0 (PV.AG (m+0))else H0)=E0 p at hp;obtain⟨h4,hp⟩:=PC hp;obtain O:=H3 hp;have hm:=i6 h4;obtain⟨ts,hts,hsum⟩:=EL0 rl h3;have hy:jL<=We (vc y):=by
      symm;have h1:=(lw h0).B8 (fu y.zR0 h0);have h3:jL=y.fK.u70:=by trivial
      ext;exact ω54 ‹_› ‹_›
     have hl:=hsum y hy;ext;refine N6 ts hts (tl ts (by exact W6 ‹_› ‹_›)) ⟨_,_,O,W6 c40 hl⟩ λ z hz=>?_;subst hz;refine⟨_,_,O,?_⟩;simp at hl;exact ω104 ‹_›
  |_=>exact B4
 |_=>exact B4
theorem ju:vc "A"=nA:=by decide +E7
theorem HL0:vc "::"=Xp:=by decide +E7
theorem IL0(gd:J1 B A G s){n:C0}{y:C1}{t:O6}{L1:PV}{vs:P0 K0}(h0:n≠0)(hn:vc y=n)(ra:A4 G W0 L1 vs):
  U4 B RV N2 A (xg .fR n L1) (W7 (.Z4 "str.split") (.Y0 y t::vs)) G s:=by
 subst hn;intro P Q M0;cases L1 using P3 with
 |A0 a r=>
  cases a using P3 with
  |Y0 k=>
   cases r using P3 with
   |B0=>
    obtain⟨x,q,O,⟨k0,z,tz,O,O⟩,e2⟩:=ra;have e2:q=[]:=e2;subst e2;change((bif Y1 (vc y) nA then bif Y1 (vc z) Xp then Q9 (.M1 (.A0 (.Y0 nA) .B0))else F2 39 else F2 39) R1).P1 P Q at M0;obtain⟨hy,M0⟩:=EG M0;obtain⟨hz,M0⟩:=EG M0;have ey:y="A":=cO ((L6 hy).V2 ju.Y3) h0;have ez:z="::":=cO ((L6 hz).V2 HL0.Y3) k0;subst ey ez;refine KR F.slot_str_split (c90 s _ t) F.entry_str_split (F.args_str_split_2 _ _) (meets_str_split_cannot_occur "A" "::" t tz (by decide +E7)) ?_;obtain⟨g2,I2,r2⟩:=gd.WR (tk:=X4) (k:=0) (l:=.A0 (.Y0 nA) .B0) (vs:=[.Y0 "A" t]) ⟨_,_,O,⟨by rw[<-ju];exact h0,_,_,O,ju⟩,O⟩;exact .at (R:=RV) (a:=.J0 I3) I2 g2 r2 M0
   |_=>exact B4
  |_=>exact B4
 |_=>exact B4
theorem JL0(n:C0):Yu B FZ n:=by
 intro A G s m ov L1 v vs C6 gd rv ra;intro P Q M0;cases ov using P3 with
 |Y0 k=>
  obtain⟨h0,y,t,O,hy⟩:=rv;change((xg m k L1) R1).P1 P Q at M0;cases m using j00 with
  |mP=>exact GL0 gd h0 hy ra P Q M0
  |fR=>exact IL0 gd h0 hy ra P Q M0
  |_=>exact B4
 |J0 i=>
  obtain⟨hi,O⟩:=rv;change(U10 FZ m i L1 (O3 i) R1).P1 P Q at M0;generalize ex:O3 i=zo at M0;cases zo using EA with
  |M1 l=>
   change(Za FZ m i l L1 R1).P1 P Q at M0;cases m using j00 with
   |SI=>exact Y40 gd hi ex ra P Q M0
   |bK=>exact xK0 gd hi ex ra P Q M0
   |dN=>exact yK0 gd hi ex ra P Q M0
   |_=>exact B4
  |H2 l=>
   change(aa FZ m i l L1 R1).P1 P Q at M0;cases m using j00 with
   |l9=>exact zK0 gd hi ex ra P Q M0
   |CU=>exact AL0 gd hi ex ra P Q M0
   |GF=>exact BL0 gd hi ex ra P Q M0
   |_=>exact B4
  |_=>exact B4
 |_=>exact B4
end
section
open PyProof.Rows
variable{B:Bs}{A:Around}{G:Gh}{s:Shared}{F:Addr->Prop}{FZ:Nat->Bool}
theorem ku{l:PV}{n:C0}(h:Va l=E0 n):H5 l=I0/\Y5 l=n:=by
 unfold Va at h;cases hs:H5 l with
 |R0=>rw[hs]at h;contradiction
 |I0=>rw[hs]at h;obtain O:=H3 h;exact⟨O,O⟩
theorem KL0{y:PV}{v:K0}(gd:J1 B A G s)(r:F3 G W0 y v):U4 B RV N2 A (G10 y) (W7 (.Z4 "len") [v]) G s:=by
 intro P Q M0;obtain⟨g',st⟩:=KJ (X4+1+1);have N6:∀n:C0,P (.j0 (.N4 n)) R1->Po B RV N2 A G s P (.j0 (n:A2) (X4+1)) {s with y3:=X4+1+1}:=λ n h=> .at (R:=RV) (a:=.j0 (.N4 n)) st g' ⟨_,O⟩ h;cases y using P3 with
 |Q0 l=>
  obtain⟨n,hn,hP⟩:=r9 (j6 M0);have hP:P (.j0 (.N4 n)) R1:=hP;obtain⟨h1,O⟩:=ku hn;obtain⟨a,vs,k,O,_,e,rl⟩:=r;have hl:=CL rl h1;refine len_tuple (G5:=JB) ⟨_,e,O,_,O⟩ (by rw[kF];omega) ?_;rw[kF,Jc rl];exact N6 _ hP
 |J0 i=>
  obtain⟨hi,O⟩:=r;change(F1 (w5 21 (F10 (O3 i))) (λ n=>W1 (.j0 (.N4 n))) R1).P1 P Q at M0;obtain⟨n,hn,hP⟩:=r9 (j6 M0);have hP:P (.j0 (.N4 n)) R1:=hP;generalize ex:O3 i=zo at hn;cases zo using EA with
  |M1 l=>
   obtain⟨h1,O⟩:=ku hn;obtain⟨ws,k,e,rl⟩:=sM gd hi ex;have hl:=CL rl h1;refine sT0 (M9 e) (by rw[kF];omega) ?_;rw[kF,Jc rl];exact N6 _ hP
  |H2 l=>
   obtain⟨h1,O⟩:=ku hn;obtain⟨U2,hd,rd⟩:=gQ gd hi ex;have hl:=gY rd h1;refine call_len_dict (nM gd hi (by rw[ex];simp)) hd (by omega) ?_;rw[z30 rd];exact N6 _ hP
  |_=>contradiction
 |_=>exact B4
theorem LL0{i:C0}{v:K0}(r:F3 G W0 (.ty i) v):∃a vs k,v=.J0 a/\E3 a=E0 (E8 vs k):=by
 obtain⟨_,r⟩:=r;revert r;cases I5 i<;>(intro r;obtain⟨a,vs,k,O,_,e,_⟩:=r;exact⟨a,vs,k,O,e⟩)
theorem ML0{y:PV}{v:K0}(gd:J1 B A G s)(r:F3 G W0 y v):U4 B RV N2 A (F1 (w5 23 (gy y)) λ b=>W1 (.N3 b)) (W7 (.Z4 "isinstance") [v,.U0 "tuple"]) G s:=by
 intro P Q M0;obtain⟨b,hb,hP⟩:=r9 (j6 M0);have hP:P (.N3 b) R1:=hP;obtain⟨g',st⟩:=KJ (X4+1);have f0:b=R0->Po B RV N2 A G s P (.N3 R0) {s with y3:=X4+1}:=λ e=>by subst e;exact .at (R:=RV) (a:=.N3 R0) st g' O hP
 cases y using P3 with
 |Q0 l=>
  obtain O:=H3 hb;obtain⟨a,vs,k,O,_,e,rl⟩:=r;exact XS0 e O (.CB (R:=RV) (a:=.N3 I0) gd O hP)
 |ty i=>
  obtain O:=H3 hb;obtain⟨a,vs,k,O,e⟩:=LL0 r;exact XS0 e O (.CB (R:=RV) (a:=.N3 I0) gd O hP)
 |j0 i=>obtain O:=H3 hb;obtain⟨t,O⟩:=r;exact Nw.int_tuple (f0 O)
 |Y0 n=>obtain O:=H3 hb;obtain⟨_,y,t,O,_⟩:=r;exact Nw.str_tuple (f0 O)
 |H0=>obtain O:=H3 hb;cases r;exact Nw.NoneType_tuple (f0 O)
 |N3 c=>obtain O:=H3 hb;cases r;exact Nw.bool_tuple (f0 O)
 |_=>contradiction
theorem NL0:∀n:C0,n<10->(DA (pV0 (FA n))).L7<=1:=by
 have h:∀n:gH 10,(DA (pV0 (FA n.x8))).L7<=1:=by decide +E7
 exact λ n hn=>h ⟨n,hn⟩
theorem OL0{y:PV}{v:K0}(gd:J1 B A G s)(r:F3 G W0 y v):U4 B RV N2 A (b1 .Y0 y) (W7 (.U0 "str") [v]) G s:=by
 intro P Q M0;cases y using P3 with
 |j0 i=>
  change((bif iy i then W1 (.AG 1)else F2 25) R1).P1 P Q at M0;cases hs:iy i with
  |R0=>rw[hs]at M0;exact B4
  |I0=>
   rw[hs]at M0;obtain⟨t,O⟩:=r;cases i using SL with
   |KB n=>contradiction
   |N4 n=>
    have hn:n<10:=uk hs;obtain⟨g',st⟩:=KJ (X4+1);refine str_of_int_fit (N:=10) ?_ (by decide) λ _=> .at (R:=RV) (a:=.AG 1) st g' ⟨_,_,O,NL0 n hn⟩ M0;have:¬((FA n:A2)<0):=by simp
    exact rc.B8 hn
 |_=>exact B4
theorem PL0{y:PV}{v:K0}(gd:J1 B A G s)(r:F3 G W0 y v):U4 B RV N2 A (Gq .Q0 y) (W7 (.U0 "tuple") [v]) G s:=by
 intro P Q M0;change(F1 (G5 y) (λ l=>W1 (.Q0 l)) R1).P1 P Q at M0;obtain⟨b,l,ws,n,O,hb,rl,hl,hP⟩:=au gd r M0;have hP:P (.Q0 l) R1:=hP;rcases hb with e|⟨e,O⟩
 ·refine call_tuple_list (Y7:=by rw[kF];exact uM hl) (M9 e) λ h' k=>?_;obtain⟨g1,D2⟩:=Zn (h':=h') (tk:=X4) k;obtain⟨g2,I2,r2⟩:=g1.G40 (tk:=X4) (k:=0) (IB0 D2);exact .at (R:=RV) (a:=.Q0 l) (AC I2) g2 r2 hP
 ·exact call_tuple_same (Lc e) (.CB (R:=RV) (a:=.Q0 l) gd r hP)
theorem QL0{y:PV}{v:K0}(gd:J1 B A G s)(r:F3 G W0 y v){i:C0}{l:PV}(hy:y=.J0 i)(ex:O3 i=.H2 l)(hs:H5 l=I0):
  U4 B RV N2 A (Q9 (.H2 l)) (W7 (.U0 "dict") [v]) G s:=by
 intro P Q M0;subst hy;obtain⟨hi,O⟩:=r;obtain⟨U2,hd,rd⟩:=gQ gd hi ex;refine kt_call_dict (nM gd hi (by rw[ex];simp)) hd (uM (gY rd hs)) λ h' hm uJ=>?_;have k:∀b o,E3 b=E0 o->C3 b=E0 o:=λ b o e=>(uJ.2 b (WC (o9 e))).V2 (rA _ _ _ _ e);have Q0:zB E5 W0 h':=λ b vs n _ e=>k _ _ e;obtain⟨g2,I2⟩:=Mf (h':=h') (tk:=X4) (a:=P2) (o:=.H2 l) k (NE (A8 _)) M_ ⟨U2,hm,rd.D5 (iU _ _) Q0⟩;exact .at (R:=RV) (a:=.J0 I3) I2 g2 ⟨rD _,G6 w6 (w3 O).Y3⟩ M0
theorem RL0{y:PV}{v:K0}(hh:C9=H0)(gd:J1 B A G s)(r:F3 G W0 y v):U4 B RV N2 A (Gq .M1 y) (W7 (.U0 "list") [v]) G s:=by
 intro P Q M0;cases y using P3 with
 |J0 i=>
  symm;obtain⟨hi,O⟩:=r;change(F1 (w5 68 (rg (O3 i))) (λ k=>Q9 (.M1 (.A0 (.Y0 k) .B0))) R1).P1 P Q at M0;obtain⟨k,hk,hP⟩:=r9 (j6 M0);cases ex:O3 i with
  |H2 l=>
   rw[ex]at hk;cases l using P3 with
   |kv k' v' r'=>
    cases r' using P3 with
    |B0=>
     obtain O:=H3 hk;obtain⟨U2,hd,rd⟩:=gQ gd hi ex;obtain⟨x,u,q,O,h0,hx,_,e3⟩:=rd;have e3:q=[]:=e3;subst e3 hx;obtain⟨ep,D8⟩:=VV0;ext;refine kdl_call (qV0 (lC:=CD bE kE) (nM gd hi (by rw[ex];simp))) hh D8 (by rw[HI];simp) λ h' tk M3 c JC he C7=>?_;symm;obtain⟨h1,h2⟩:=C7;have h1:V00=1:=h1;have hv:M3[0]?=E0 M3[0]:=by simp[h1]
     obtain⟨k2,x2,e2,ZG⟩:=h2 0 M3[0] hv;ext;cases e2;symm;obtain⟨t,et⟩:=tT0 ZG;have ea:M3=#[M3[0]]:=by
      apply L4.rB
      ·simp[h1]
      ·intro j hj _;have:j=0:=by exact Rs ‹_›
       subst J2;rfl
     rw[et]at ea;rw[ea]at he;have ht:E3 P2=H0:=NE (A8 _);obtain⟨g2,I2⟩:=Mf (h':=h') (tk:=tk) (a:=P2) (o:=.M1 (.A0 (.Y0 (vc x)) .B0)) JC ht M_ ⟨[.Y0 x t],c,by simpa using he,_,_,O,⟨h0,_,_,O,O⟩,O⟩;ext;exact .at (R:=RV) (a:=.J0 I3) I2 g2 ⟨rD _,G6 w6 (w3 O).Y3⟩ hP
    |_=>contradiction
   |_=>contradiction
  |_=>
   ext;rw[ex]at hk;contradiction
 |_=>exact B4
theorem SL0{K3:YN}{w:M4}{E:K0->D1->Prop}{l:H1}{o:C4}{G5:L4 K0}{n:C0}{k:A2}{t:O6}{v:K0}{Q:S7->D1->Prop}(ho:E3 l=E0 o)(hc:F4=.U0 "list")(hd:F9=.V5 G5 n)
  (h0:0<=k)(yL:k<2^63)(hn:k<LR)(hQ:Q () {s with A3:=NL l (FK (·.FI k.gR v))}):
  V0 (T4 K3 w) A (Pl (.J0 l) (.j0 k t) v) Q E s:=by
 have hl:W0.Yl l G5:=⟨o,ho,hc,n,hd⟩;unfold Pl
 try with_reducible refine z7 ?_
 first|refine S0 (E2 ?_)|skip
 refine S0 (lS0 d00 (by decide) ?_);refine S0 (iF (W2:=DA "__setitem__") d00 pS0
  (TC pS0 d00 entry_list_setitem ?_ (args_list_setitem _ _ _)))
 show V0 _ _ (da.listSubscript? (.j0 k t)>>=_) _ _ s;refine S0 (wpAny_listSubscript_int (fitsIndex_of h0 yL) ?_);clear yL;obtain⟨j,O⟩:=A2.eq_ofNat_of_zero_le h0;have hj:j<LR:=by exact rc.mp ‹_›
 have NO:G5[j]?=E0 G5[j]:=eh hj;show V0 _ _ ((seqItemAt l j>>=λ r=>J4 (rP (j,·)))>>=_) _ _ s;refine S0 (S0 (wpAny_seqItemAt ho hd (E2 ?_)));rw[NO];show V0 _ _ (setSeqItemAt l j v>>=_) _ _ s;refine S0 (wpAny_setSeqItemAt ho hd ?_);first
  |exact S0 (E2 (E2 ⟨.H0,O,E2 hQ⟩))
  |exact E2 ⟨.H0,O,E2 hQ⟩
theorem TL0{o i w:PV}{ov iv wv:K0}(gd:J1 B A G s)(ro:F3 G W0 o ov)(ri:F3 G W0 i iv)(rx:F3 G W0 w wv):U4 B RU N2 A (xc FZ o i w) (Pl ov iv wv) G s:=by
 intro P Q M0;cases o using P3 with
 |J0 j=>
  symm;obtain⟨hj,O⟩:=ro;change(F1 (w5 30 (Tp i w (O3 j))) (λ x=>GE FZ j x) R1).P1 P Q at M0;obtain⟨x,hx,M0⟩:=r9 (j6 M0);have M0:(F1 (GE FZ j x) (λ _=>W1 ()) R1).P1 P Q:=WZ (Jf (λ a σ h=>h) (λ _ _ h=>h) M0);have M0:=m_ M0;cases ex:O3 j with
  |M1 l=>
   rw[ex]at hx;cases i using P3 with
   |j0 k=>
    cases k using SL with
    |N4 k=>
     change(bif H5 l then(rU l k w).Y4 AO.M1 else H0)=E0 x at hx;ext;cases hs:H5 l with
     |R0=>rw[hs]at hx;contradiction
     |I0=>
     symm;rw[hs,rZ]at hx;obtain⟨l',hl',O⟩:=QQ hx;obtain⟨t,O⟩:=ri;obtain⟨ws,n,e,rl⟩:=sM gd hj ex;obtain⟨hk,DT⟩:=UJ0 rl rx hl';ext;have yL:(k:A2)<2^63:=by have:=CL rl hs;omega
     obtain⟨g',st⟩:=Pj gd (tk:=X4) (f:=(·.FI k wv)) hj ex e (l':=l') (by simpa using DT);exact SL0 (k:=(k:A2)) e O O (JL k) yL (by simpa using hk) (pN (R:=RU) (a:=()) st g' zD M0)
    |_=>contradiction
   |_=>contradiction
  |H2 l=>
   rw[ex]at hx;cases i using P3 with
   |Y0 k=>
    change(bif H5 l then E0 (AO.H2 (z5 k w l))else H0)=E0 x at hx;obtain⟨hs,hx⟩:=PC hx;obtain O:=H3 hx;obtain⟨h0,y,t,O,O⟩:=ri;obtain⟨U2,hd,rd⟩:=gQ gd hj ex;ext;refine wpAny_setItem_pairs (Y7:=uM (gY rd hs)) (lC:=CD bE kE) ZY hd λ h' hm uJ=>?_;obtain⟨g',st⟩:=Zu gd (tk:=X4+1) hj ex (Kc h0 rx (sx hd) rd) hm uJ;exact .at (R:=RU) (a:=()) st g' zD M0
   |_=>contradiction
  |_=>
   ext;rw[ex]at hx;contradiction
 |_=>exact B4
end
section
section
open PyProof.Rows
variable{B:Bs}{A:Around}{G G':Gh}{s s':Shared}{F:Addr->Prop}{FZ:Nat->Bool}
structure s8(B:Bs)(G:Gh)(h:O1)(b:H1):Prop where
 s9:¬u9 G b
 eA:PG b=H0
 z:b∉CG
 e9:∃o,B3 b=E0 o
theorem s8.J6{b:H1}(x:s8 B G W0 b)(st:Z2 B F G s G' s'):s8 B G' T6 b:=by
 obtain⟨o,e⟩:=x.e9;refine⟨λ q=>?_,x.eA,wP,Zf b o e⟩;rcases Kf b q with h|h
 ·exact s_ h
 ·rw[e]at h;contradiction
theorem FX(gd:J1 B A G s){b:H1}(hb:P2<=b){h':O1}(e:∃o,C3 b=E0 o):s8 B G h' b:=⟨(SN gd hb).1,(SN gd hb).2.1,(SN gd hb).2.2,e⟩
theorem s8.JC{b:H1}{o:C4}(x:s8 B G W0 b)(st:Z2 B F G s G' s')(hF:¬F b)(e:E3 b=E0 o)(h1:F4≠.U0 "frame")(h2:F4≠.U0 "traceback"):OL b=E0 o:=by
 obtain⟨o',e',q⟩:=GX b o e s_ hF wP;rw[q.eq h1 h2]at e';exact e'
theorem JB0{W:P0 H1}{h':O1}{tk:O6}(g:J1 B A G s)(hW:∀b∈W,s8 B G W0 b/\F b/\∀o,E3 b=E0 o->F4≠.U0 "frame"/\F4≠.U0 "traceback"/\F4≠.U0 "code"/\(b∉E5->F4≠.U0 "tuple"))
  (hk:∀b o,b∉W->E3 b=E0 o->C3 b=E0 o)(ha:∀b∈W,∃o,C3 b=E0 o):
  J1 B A G {s with A3:=h',y3:=tk}/\Z2 B F G s G {s with A3:=h',y3:=tk}:=by
 have k3:UE W0 h':=⟨λ b o ts x c d=>⟨o,ts,hk b o (λ q=>((hW b q).2.2 o x).2.1 c) x,c,d,O⟩,λ b o x c d=>⟨o,hk b o (λ q=>((hW b q).2.2 o x).1 c) x,c,d⟩,λ b o x c=>hk b o (λ q=>((hW b q).2.2 o x).2.2.1 c.1) x⟩;have Q0:zB E5 W0 h':=λ b vs n hb x=>hk _ _ (λ q=>((hW b q).2.2 _ x).2.2.2 hb O) x;have AE:∀b o,E3 b=E0 o->∃o',C3 b=E0 o':=λ b o x=>if q:b∈W then ha b q else⟨o,hk b o q x⟩;obtain⟨l,hl,y8⟩:=SJ;refine⟨⟨FE,⟨QG,λ i hi=>?_,XL,vC,λ a ha=>⟨(xD a ha).1,by obtain⟨o,e⟩:=(xD a ha).2;exact AE a o e⟩⟩,λ b o x h1 h2 h3=>hk _ _ (λ q=>by rw[(hW b q).1.eA]at x;contradiction) (QB b o x h1 h2 h3),
  qR _ _ (λ b o x z=>hk _ _ (λ q=>Ig (hW b q).1.z λ c=>Bo (λ c=>((hW b q).2.2 o x).2.2.1 c.1) λ zz=>wL zz λ y z=>by rw[(hW b q).1.eA]at z;contradiction) x) gE,l,hl,y8.JC k3⟩,⟨h',tk,O⟩,.L5 G,λ b x=> .S2 x,AE,λ b o x h1 h2 h3=>⟨o,hk _ _ (λ q=>h2 (hW b q).2.1) x,.L5 o⟩,Q0,k3⟩
 by_cases Xo:O3 i=.K4
 ·rw[Xo];trivial
 ·exact(GA i hi).D5 (.L5 G) Q0 k3 (λ ob x=>hk _ _ (λ q=>(hW _ q).1.s9 ⟨i,hi,Xo,O⟩) x) λ d l _ x=>⟨l,x⟩
structure A7(h:O1)(it R4:H1)(k:C0)(G5:L4 K0):Prop where
 is:(NU0 it R4 k/\wx R4 G5)\/(WV0 h it R4 k/\Cz h R4 G5)
 ne:R4≠it
theorem A7.at{h h':O1}{it R4:H1}{k:C0}{G5:L4 K0}(x:A7 h it R4 k G5)(h1:∀o,B3 it=E0 o->C3 it=E0 o)(h2:∀o,B3 R4=E0 o->C3 R4=E0 o):A7 h' it R4 k G5:=
 ⟨x.is.JM (λ⟨⟨o,e,r⟩,⟨o',e',r'⟩⟩=>⟨⟨o,h1 o e,r⟩,⟨o',h2 o' e',r'⟩⟩) λ⟨⟨o,e,r⟩,⟨o',e',r'⟩⟩=>⟨⟨o,h1 o e,r⟩,⟨o',h2 o' e',r'⟩⟩,rR⟩
theorem A7.rB{h h':O1}{it R4 b:H1}{k:C0}{G5:L4 K0}(x:A7 h it R4 k G5)(hs:ld b h h')(h1:it≠b)(h2:R4≠b):A7 h' it R4 k G5:=x.at (λ o e=>hs _ o h1 e) λ o e=>hs _ o h2 e
theorem A7.e9{h:O1}{it R4:H1}{k:C0}{G5:L4 K0}(x:A7 h it R4 k G5):(∃o,B3 it=E0 o/\(F4=.U0 "list_iterator"\/F4=.U0 "tuple_iterator"))/\∃o,B3 R4=E0 o/\(F4=.U0 "list"\/F4=.U0 "tuple"):=by
 rcases x.is with⟨⟨o,e,c,_⟩,⟨o',e',c',_⟩⟩|⟨⟨o,e,c,_⟩,⟨o',e',c',_⟩⟩
 ·exact⟨⟨o,e,.S2 c⟩,⟨o',e',.S2 c'⟩⟩
 ·exact⟨⟨o,e,.L2 c⟩,⟨o',e',.L2 c'⟩⟩
section
variable{prog:Program}{w:World}{E:Value->Shared->Prop}
theorem MT{it R4:H1}{k:C0}{G5:L4 K0}{x:K0}{Q:K0->D1->Prop}(h:A7 W0 it R4 k G5)(hx:G5[k]?=E0 x)
  (hQ:∀h',A7 h' it R4 (k+1) G5->TA it W0 h'->Q x {s with A3:=h'}):V0 (T4 K3 w) A (wQ (.J0 it)) Q E s:=by
 rcases h.is with⟨C7,hl⟩|⟨C7,hl⟩
 ·exact wpAny_nextOf_list_item C7 hl hx λ h' vJ hs=>hQ h' ⟨.S2 ⟨vJ,hl.sK cW SX⟩,SX⟩ hs
 ·obtain⟨o,ho,hc,hd⟩:=id C7;obtain⟨ol,iY,YG,nl,xP⟩:=id hl;refine S0 (iF (W2:=DA "__next__") MR oa
   (TC oa MR S80 ?_ (W80 _)))
  show V0 _ _ (KC (.J0 it) 0>>=_) _ _ s;refine S0 (M7 ho hd (x:=.J0 R4) O ?_);show V0 _ _ (if(w6 R4==EF)=I0 then _ else _) _ _ s;show V0 _ _ (KC (.J0 it) 1>>=_) _ _ s;refine S0 (M7 ho hd (x:=.j0 k 0) O ?_);show V0 _ _ (ql (.J0 R4)>>=_) _ _ s;refine S0 (zJ iY xP ?_);simp only[m80,hx];refine S0 (DR ho hd (by simp) (E2 ⟨x,O,E2 (hQ _ ⟨.L2 ⟨?_,?_⟩,SX⟩ (lr ..))⟩))
  ·exact⟨_,BH _ ho (ka (TZ hd _)),(C4.cls_mapFields ..).V2 hc,by
    rw[TZ hd];simp[i5]⟩
  ·exact⟨ol,(hM _ _ SX.Y3).V2 iY,YG,nl,xP⟩
theorem jY{it R4:H1}{k:C0}{G5:L4 K0}{Q:K0->D1->Prop}(hh:C9=H0)(h:A7 W0 it R4 k G5)(hx:G5[k]?=H0)
  (hE:∀h' e,ld it W0 h'->(∃o,C3 e=E0 o/\F4=.U0 "StopIteration")->(∃o,C3 it=E0 o)->E (.J0 e) {s with A3:=h'}):V0 (T4 K3 w) A (wQ (.J0 it)) Q E s:=by
 rcases h.is with⟨C7,hl⟩|⟨C7,hl⟩
 all_goals
  obtain⟨o,ho,hc,hd⟩:=id C7;obtain⟨ol,iY,_,nl,xP⟩:=id hl;first
   |refine S0 (iF (W2:=DA "__next__") MR Os
     (TC Os MR YS0 ?_ (eS0 _)))
   |refine S0 (iF (W2:=DA "__next__") MR oa
     (TC oa MR S80 ?_ (W80 _)))
  show V0 _ _ (KC (.J0 it) 0>>=_) _ _ s;refine S0 (M7 ho hd (x:=.J0 R4) O ?_);show V0 _ _ (if(w6 R4==EF)=I0 then _ else _) _ _ s;show V0 _ _ (KC (.J0 it) 1>>=_) _ _ s;refine S0 (M7 ho hd (x:=.j0 k 0) O ?_);show V0 _ _ (ql (.J0 R4)>>=_) _ _ s;refine S0 (zJ iY xP ?_);simp only[m80,hx];refine S0 (KP (S0 (DR ho hd (by simp) ?_)));show V0 _ _ (cA0 (.U0 "StopIteration") []>>=_) _ _ _;refine S0 ?_;refine S0 (DH ?_ (by size_fits));refine S0 (m:=wb _ _) (NN (a:=EF) (by first|rfl|(simp only[wb];rfl)) ?_);refine DH ?_ (by size_fits);dsimp only;refine S0 (bv ?_);first|rw[show pB.q70=H0 from hh]|rw[hh]
  refine S0 (E2 (kZ ?_));exact hE _ _ (((lr ..).sK.y6 _).y6 _) ⟨_,BA _ O,O⟩ ⟨_,S6 _ (S6 _ (BH _ ho (ka (TZ hd _))))⟩
theorem d40{z TI TO i1 i2 l1 l2:H1}{k1 k2:C0}{xs ys:L4 K0}{x y a b:K0}{Q:K0->D1->Prop}(D:Qe z TI TO i1 i2 l1 l2)
  (hz:wF W0 z TI TO .H0)(sB:cC W0 TI (.J0 i1) (.J0 i2))(mA:cC W0 TO a b)
  (h1:A7 W0 i1 l1 k1 xs)(h2:A7 W0 i2 l2 k2 ys)(hx:xs[k1]?=E0 x)(hy:ys[k2]?=E0 y)
  (hQ:∀h',wF h' z TI TO (i5 P2)->cC h' TO x y->A7 h' i1 l1 (k1+1) xs->A7 h' i2 l2 (k2+1) ys->cC h' P2 x y->IB=P2+1->
   (∀c o,c≠z->c≠TO->c≠i1->c≠i2->E3 c=E0 o->C3 c=E0 o)->Q (.J0 P2) {s with A3:=h'}):
  V0 (T4 K3 w) A (KA.«zip.__next__» ⟨[.J0 z],[]⟩) (λ N6 s'=>∃v,N6=.KD (.U1 v)/\Q v s') E s:=by
 show V0 _ _ (KC (.J0 z) 2>>=_) _ _ _;refine S0 (M7 hz O (x:=.N3 R0) O ?_);show V0 _ _ (KC (.J0 z) 3>>=_) _ _ _;refine S0 (M7 hz O (x:=.J0 TI) O ?_);refine S0 (zJ sB O ?_);show V0 _ _ (AT (.J0 z)>>=_) _ _ _;refine S0 ?_;refine S0 (M7 hz O (x:=.H0) O (E2 ?_));simp -u4 only[mW];refine S0 (KP ?_);refine S0 (M7 hz O (x:=.J0 TO) O ?_);refine S0 (tI hz (by simp -u4) λ j5 vM wD=>?_);replace vM:wF j5 z TI TO .Re:=vM;refine S0 ?_;simp -u4 only[OU0,gU0,JW,ik];refine S0 (S0 (aZ ?_));show V0 _ _ (wQ (.J0 i1)>>=_) _ _ _;refine S0 (MT (R_ uC UP jR) hx λ r7 kY mB=>E2 ?_);have Vc:cC r7 TO a b:=GH _ _ B_ (uC _ _ rN mA);refine S0 (zJ Vc O ?_);refine S0 (T80 Vc λ c8 Wc vG=>?_);replace Wc:cC c8 TO x b:=Wc;refine S0 (Rl (E2 ?_));refine S0 (S0 (aZ ?_));show V0 _ _ (wQ (.J0 i2)>>=_) _ _ _;refine S0 (MT (((fz uC sN N_).rB GH Cm Vm).rB HF ae.Y3 Uy) hy λ zL UL0 lY=>E2 ?_);have e40:cC zL TO x b:=e00 _ _ ae Wc;refine S0 (zJ e40 O ?_);refine S0 (T80 e40 λ YI Qj mY=>?_);replace Qj:cC YI TO x y:=Qj;refine S0 (Rl (E2 (E2 ?_)));refine S0 (zJ Qj O ?_);refine S0 (mt ?_);have Y7:NW=P2:=by rw[mY.1,lY.1,vG.1,mB.1,wD.1]
 have Rj:wF YI z TI TO .Re:=TN _ _ rN.Y3 (e00 _ _ sN.Y3 (HF _ _ rN.Y3 (GH _ _ Fy vM)));have VL0:∀c o,c≠z->c≠TO->c≠i1->c≠i2->E3 c=E0 o->YI.W5 c=E0 o:=λ c o c1 c2 c3 c4 e=>
  TN _ _ c2 (e00 _ _ c4 (HF _ _ c2 (GH _ _ c3 (uC _ _ c1 e))))
 have WL0:A7 YI i1 l1 (k1+1) xs:=((kY.rB HF B_.Y3 dA0).rB e00 D.i12 eA0).rB TN B_.Y3 dA0;have XL0:A7 YI i2 l2 (k2+1) ys:=UL0.rB TN ae.Y3 Uy;have f40:z<NW:=o9 Rj;show V0 _ _ (x70 (.J0 z) (.J0 NW)>>=_) _ _ _;refine S0 ?_;have YL0:wF (YI.y6 {O2:=.U0 "tuple",L3:=.V5 #[x,y]}) z TI TO .Re:=S6 _ Rj;refine S0 (tI YL0 (by simp -u4) λ Xc lu Yc=>?_);replace lu:wF Xc z TI TO (i5 NW):=lu;refine tI lu (by simp -u4) λ Zc Sj mu=>?_;replace Sj:wF Zc z TI TO (i5 NW):=Sj;have up:∀c o,c≠z->YI.W5 c=E0 o->Zc.W5 c=E0 o:=λ c o c1 e=>mu.sK _ _ c1 (bn _ _ c1 (S6 _ e));have g40:cC Zc NW x y:=mu.sK _ _ (UW f40) (bn _ _ (UW f40) (BA _ O));have hz8:Zc.hO=NW+1:=by rw[mu.1,Yc.1,TD]
 rw[Y7]at Sj g40 hz8;refine E2 ⟨_,O,?_⟩;show Q (.J0 NW) _;rw[Y7];exact hQ Zc Sj (up _ _ rN Qj) (WL0.at (λ o e=>up _ o UP e) λ o e=>up _ o jR e) (XL0.at (λ o e=>up _ o sN e) λ o e=>up _ o N_ e) g40 hz8 λ c o c1 c2 c3 c4 e=>up c o c1 (VL0 c o c1 c2 c3 c4 e)
theorem h40{z TI TO i1 i2 l1 l2:H1}{k1 k2:C0}{xs ys:L4 K0}{a b:K0}{Q:gH->D1->Prop}(hh:C9=H0)(D:Qe z TI TO i1 i2 l1 l2)
  (hz:wF W0 z TI TO .H0)(sB:cC W0 TI (.J0 i1) (.J0 i2))(mA:cC W0 TO a b)
  (h1:A7 W0 i1 l1 k1 xs)(h2:∃o,E3 i2=E0 o)(lU:xs[k1]?=H0\/(A7 W0 i2 l2 k2 ys/\ys[k2]?=H0))
  (hE:∀h' e,(∀c o,c≠z->c≠TO->c≠i1->c≠i2->E3 c=E0 o->C3 c=E0 o)->(∃o,C3 e=E0 o/\F4=.U0 "StopIteration")->(∀c,c=z\/c=TO\/c=i1\/c=i2->∃o,C3 c=E0 o)->E (.J0 e) {s with A3:=h'}):
  V0 (T4 K3 w) A (KA.«zip.__next__» ⟨[.J0 z],[]⟩) Q E s:=by
 show V0 _ _ (KC (.J0 z) 2>>=_) _ _ _;refine S0 (M7 hz O (x:=.N3 R0) O ?_);show V0 _ _ (KC (.J0 z) 3>>=_) _ _ _;refine S0 (M7 hz O (x:=.J0 TI) O ?_);refine S0 (zJ sB O ?_);show V0 _ _ (AT (.J0 z)>>=_) _ _ _;refine S0 ?_;refine S0 (M7 hz O (x:=.H0) O (E2 ?_));refine S0 (KP ?_);refine S0 (M7 hz O (x:=.J0 TO) O ?_);refine S0 (tI hz (by simp -u4) λ j5 vM wD=>?_);replace vM:wF j5 z TI TO .Re:=vM;refine S0 ?_;simp -u4 only[OU0,gU0,JW,ik];have t1:∃o,j5.W5 i1=E0 o:=by obtain⟨⟨o,e,_⟩,_⟩:=(R_ uC UP jR).e9;exact⟨o,e⟩
 have t2:∃o,j5.W5 i2=E0 o:=by obtain⟨o,e⟩:=h2;exact⟨o,uC _ _ sN e⟩
 refine S0 (S0 (aZ ?_));show V0 _ _ (wQ (.J0 i1)>>=_) _ _ _;cases hx:xs[k1]? with
 |H0=>
  refine S0 (jY hh (R_ uC UP jR) hx λ r7 e mB he ti=>?_);obtain⟨oe,fc,WG⟩:=he;have i40:wF r7 z TI TO .Re:=mB _ _ Fy vM;have nu:e≠z:=iM fc i40 WG O (by decide);refine tI i40 (by simp -u4) λ c8 ou vG=>hE c8 e (λ c o c1 _ c3 _ x=>HF _ _ c1 (mB _ _ c3 (uC _ _ c1 x))) ⟨oe,HF _ _ nu fc,WG⟩ λ c hc=>Ni (P:=λ c=>∃o,c8.W5 c=E0 o) hc ?_ ?_ ?_ ?_
  ·exact⟨_,ou⟩
  ·exact⟨_,HF _ _ rN (mB _ _ B_ (uC _ _ rN mA))⟩
  ·obtain⟨o,e⟩:=ti;exact⟨o,HF _ _ UP e⟩
  ·obtain⟨o,e⟩:=t2;exact⟨o,HF _ _ sN (mB _ _ Cm e)⟩
 |E0 x=>
  obtain⟨h2,hy⟩:A7 W0 i2 l2 k2 ys/\ys[k2]?=H0:=by rcases lU with h|h;rw[hx]at h;contradiction;exact h
  refine S0 (MT (R_ uC UP jR) hx λ r7 kY mB=>E2 ?_);have Vc:cC r7 TO a b:=GH _ _ B_ (uC _ _ rN mA);refine S0 (zJ Vc O ?_);refine S0 (T80 Vc λ c8 Wc vG=>?_);refine S0 (Rl (E2 ?_));refine S0 (S0 (aZ ?_));show V0 _ _ (wQ (.J0 i2)>>=_) _ _ _;refine S0 (jY hh (((fz uC sN N_).rB GH Cm Vm).rB HF ae.Y3 Uy) hy λ zL e lY he ti=>?_);obtain⟨oe,fc,WG⟩:=he;have Tj:wF zL z TI TO .Re:=lY _ _ sN.Y3 (HF _ _ rN.Y3 (GH _ _ Fy vM));have nu:e≠z:=iM fc Tj WG O (by decide);refine tI Tj (by simp -u4) λ YI Rj mY=>hE YI e (λ c o c1 c2 c3 c4 x=>TN _ _ c1 (lY _ _ c4 (HF _ _ c2 (GH _ _ c3 (uC _ _ c1 x))))) ⟨oe,TN _ _ nu fc,WG⟩ λ c hc=>Ni (P:=λ c=>∃o,YI.W5 c=E0 o) hc ?_ ?_ ?_ ?_
  ·exact⟨_,Rj⟩
  ·exact⟨_,TN _ _ rN (lY _ _ ae Wc)⟩
  ·obtain⟨⟨o,e,_⟩,_⟩:=kY.e9;exact⟨o,TN _ _ UP (lY _ _ D.i12 (HF _ _ B_.Y3 e))⟩
  ·obtain⟨o,e⟩:=ti;exact⟨o,TN _ _ sN e⟩
theorem j40{e it l:H1}{i:A2}{k:C0}{G5:L4 K0}{x L8:K0}{Q:K0->D1->Prop}
  (he:WP W0 e it i L8)(C7:A7 W0 it l k G5)(hx:G5[k]?=E0 x)(Y6:e≠it)(iH:l≠e)
  (hQ:∀h',p90 h' e it (i+1) x P2->A7 h' it l (k+1) G5->
   C3 P2=E0 {O2:=.U0 "tuple",L3:=.V5 #[.j0 i X4,x]}->IB=P2+1->
   (∀b o,b≠e->b≠it->E3 b=E0 o->C3 b=E0 o)->Q (.J0 P2) {s with A3:=h',y3:=X4+1}):
  V0 (T4 K3 w) A (KA.«enumerate.__next__» ⟨[.J0 e],[]⟩) (λ N6 s'=>∃v,N6=.KD (.U1 v)/\Q v s') E s:=by
 obtain⟨hp,g,d,tk,os⟩:=s;show V0 _ _ (KC (.J0 e) 2>>=_) _ _ _;refine S0 (M7 he O (x:=.J0 it) O ?_);refine S0 (MT C7 hx λ j5 NT wD=>?_);replace wD:TA it hp j5:=wD;have iO:WP j5 e it i L8:=(wD.2 e Y6).V2 he;show V0 _ _ (KC (.J0 e) 3>>=_) _ _ ⟨j5,g,d,tk,os⟩;refine S0 (M7 iO O (x:=i5 i) O ?_);show V0 _ _ (KC (.J0 e) 4>>=_) _ _ ⟨j5,g,d,tk,os⟩;refine S0 (M7 iO O (x:=.H0) O ?_);show V0 _ _ (mkInt i>>=_) _ _ ⟨j5,g,d,tk,os⟩;refine S0 (K90 ?_);show V0 _ _ (Pe (.J0 e) 3 (i5 (i+1))>>=_) _ _ ⟨j5,g,d,tk+1,os⟩;refine S0 (tI iO (by simp -u4) λ r7 rJ mB=>?_);replace mB:TA e j5 r7:=mB;replace rJ:WP r7 e it (i+1) L8:=rJ;show V0 _ _ (Pe (.J0 e) 4 .H0>>=_) _ _ ⟨r7,g,d,tk+1,os⟩;refine S0 (tI rJ (by simp -u4) λ c8 rM vG=>?_);replace vG:TA e r7 c8:=vG;replace rM:WP c8 e it (i+1) L8:=rM;show V0 _ _ (rV0 [.j0 i tk,x]>>=_) _ _ ⟨c8,g,d,tk+1,os⟩;refine S0 (mt ?_);have iQ:WP (gf {O2:=.U0 "tuple",L3:=.V5 #[.j0 i tk,x]}) e it (i+1) L8:=S6 _ rM;generalize gc:gf {O2:=.U0 "tuple",L3:=.V5 #[.j0 i tk,x]}=zL at iQ;have Y7:xb=VW:=by rw[vG.1,mB.1,wD.1]
 have hel:e<VW:=o9 he;have ZL0:zL.W5 VW=E0 {O2:=.U0 "tuple",L3:=.V5 #[.j0 i tk,x]}:=by rw[<-gc,<-Y7];exact BA _ O
 have Tj:zL.hO=VW+1:=by rw[<-gc,TD,Y7]
 have aL0:∀b o,b≠e->b≠it->Tf b=E0 o->zL.W5 b=E0 o:=λ b o lO RA hb=>by
  rw[<-gc];exact S6 _ (HF b o lO (GH b o lO (uC b o RA hb)))
 have bL0:A7 zL it l (k+1) G5:=by
  rw[<-gc];exact((NT.rB GH TR iH).rB HF TR iH).at (λ o e=>S6 _ e) λ o e=>S6 _ e
 show V0 _ _ (AT (.J0 e)>>=_) _ _ ⟨zL,g,d,tk+1,os⟩;rw[Y7];clear gc rM vG rJ mB iO wD NT Y7 c8 r7 j5;refine S0 ?_
 ·unfold AT;refine S0 (M7 iQ O (x:=.H0) O (E2 ?_));dsimp only[mW];refine S0 (KP ?_);refine S0 (M7 iQ O (x:=L8) O ?_);refine S0 (tI iQ (by simp -u4) λ YI qu mY=>?_);replace mY:TA e zL YI:=mY;replace qu:WP YI e it (i+1) x:=qu;show V0 _ _ (x70 (.J0 e) (.J0 VW)>>=_) _ _ ⟨YI,g,d,tk+1,os⟩;refine S0 ?_
  ·unfold x70;refine S0 (tI qu (by simp -u4) λ h₆ su nY=>?_);replace nY:TA e YI h₆:=nY;replace su:p90 h₆ e it (i+1) x VW:=su;refine tI su (by simp -u4) λ Xc tu Yc=>?_;replace Yc:TA e h₆ Xc:=Yc;replace tu:p90 Xc e it (i+1) x VW:=tu;refine S0 (Rl (E2 ⟨_,O,hQ Xc tu ?_ ?_ ?_ ?_⟩))
   ·exact((bL0.rB TN TR iH).rB nY.sK TR iH).rB bn TR iH
   ·exact bn _ _ (UW hel) (nY.sK _ _ (UW hel) (TN _ _ (UW hel) ZL0))
   ·rw[Yc.1,nY.1,mY.1,Tj]
   ·exact λ b o lO RA hb=>bn b o lO (nY.sK b o lO (TN b o lO (aL0 b o lO RA hb)))
theorem cL0{e it l:H1}{i:A2}{k:C0}{G5:L4 K0}{L8:K0}{Q:gH->D1->Prop}(hh:C9=H0)
  (he:WP W0 e it i L8)(C7:A7 W0 it l k G5)(hx:G5[k]?=H0)
  (hE:∀h' x,ld it W0 h'->(∃o,C3 x=E0 o/\F4=.U0 "StopIteration")->(∃o,C3 it=E0 o)->E (.J0 x) {s with A3:=h'}):
  V0 (T4 K3 w) A (KA.«enumerate.__next__» ⟨[.J0 e],[]⟩) Q E s:=by
 show V0 _ _ (KC (.J0 e) 2>>=_) _ _ _;refine S0 (M7 he O (x:=.J0 it) O ?_);exact S0 (jY hh C7 hx λ h' x mI NO ti=>hE h' x mI NO ti)
end
end
end
section
section
open PyProof.Rows
variable{B:Bs}{A:Around}{G G':Gh}{s s':Shared}{F:Addr->Prop}{FZ:Nat->Bool}
section
variable{prog:Program}{w:World}{E:Value->Shared->Prop}
theorem uu{it R4:H1}{k:C0}{G5:L4 K0}{x:K0}{Q:Q1 K0->D1->Prop}(h:A7 W0 it R4 k G5)(hx:G5[k]?=E0 x)
  (hQ:∀h',A7 h' it R4 (k+1) G5->TA it W0 h'->Q (E0 x) {s with A3:=h'}):V0 (T4 K3 w) A (sF (.J0 it)) Q E s:=by
 rcases h.is with⟨C7,hl⟩|⟨C7,hl⟩
 ·exact wpAny_pyNext_list_item C7 hl hx λ h' vJ hs=>hQ h' ⟨.S2 ⟨vJ,hl.sK cW SX⟩,SX⟩ hs
 ·exact next_tuple_item C7 hl hx λ h' vJ hs=>hQ h' ⟨.L2 ⟨vJ,hl.sK cW SX⟩,SX⟩ hs
theorem wu{it R4:H1}{k:C0}{G5:L4 K0}{Q:Q1 K0->D1->Prop}(hh:C9=H0)(h:A7 W0 it R4 k G5)(hx:G5[k]?=H0)
  (hQ:∀h',ld it W0 h'->(∃o,C3 it=E0 o)->Q H0 {s with A3:=h'}):V0 (T4 K3 w) A (sF (.J0 it)) Q E s:=by
 rcases h.is with⟨C7,hl⟩|⟨C7,hl⟩
 all_goals
  obtain⟨o,ho,hc,hd⟩:=id C7;obtain⟨ol,iY,_,nl,xP⟩:=id hl;first
   |refine S0 (GI (iF (W2:=DA "__next__") MR Os
     (TC Os MR YS0 ?_ (eS0 _))))
   |refine S0 (GI (iF (W2:=DA "__next__") MR oa
     (TC oa MR S80 ?_ (W80 _))))
  show V0 _ _ (KC (.J0 it) 0>>=_) _ _ s;refine S0 (M7 ho hd (x:=.J0 R4) O ?_);show V0 _ _ (if(w6 R4==EF)=I0 then _ else _) _ _ s;show V0 _ _ (KC (.J0 it) 1>>=_) _ _ s;refine S0 (M7 ho hd (x:=.j0 k 0) O ?_);show V0 _ _ (ql (.J0 R4)>>=_) _ _ s;refine S0 (zJ iY xP ?_);simp only[m80,hx];refine S0 (KP (S0 (DR ho hd (by simp) ?_)));show V0 _ _ (cA0 (.U0 "StopIteration") []>>=_) _ _ _;refine S0 ?_;refine S0 (DH ?_ (by size_fits));refine S0 (m:=wb _ _) (NN (a:=EF) (by first|rfl|(simp only[wb];rfl)) ?_);refine DH ?_ (by size_fits);dsimp only;refine S0 (bv ?_);first|rw[show pB.q70=H0 from hh]|rw[hh]
  refine S0 (E2 (kZ ?_));refine S0 (pT (T:="StopIteration") (b:=I0) ⟨_,BA _ O,O⟩ XZ ?_);exact E2 (hQ _ (((lr ..).sK.y6 _).y6 _) ⟨_,S6 _ (S6 _ (BH _ ho (ka (TZ hd _))))⟩)
theorem dL0{it:H1}{x e_ J6:A2}{Q:Q1 K0->D1->Prop}(hh:C9=H0)(C7:Tl W0 it x e_ J6)(hleft:e_<=0)
  (hQ:∀h',(∀b o,E3 b=E0 o->C3 b=E0 o)->Q H0 {s with A3:=h'}):V0 (T4 K3 w) A (sF (.J0 it)) Q E s:=by
 have hT:aC (.J0 it) "range_iterator":=⟨_,C7,O⟩;unfold sF;refine S0 (GI (iF (W2:=DA "__next__") hT FS0
  (TC FS0 hT F.entry_range_iterator_next ?_ (F.args_range_iterator_next_1 _))))
 show V0 _ _ (KC (.J0 it) 0>>=_) _ _ s;refine S0 (M7 C7 O (x:=i5 x) O ?_);show V0 _ _ (KC (.J0 it) 1>>=_) _ _ s;refine S0 (M7 C7 O (x:=i5 e_) O ?_);show V0 _ _ (KC (.J0 it) 2>>=_) _ _ s;refine S0 (M7 C7 O (x:=i5 J6) O ?_);show V0 _ _ (if e_<=0 then _ else _) _ _ s;rw[w3 hleft];refine S0 (KP ?_);refine S0 ?_;show V0 _ _ (cA0 (.U0 "StopIteration") []>>=_) _ _ _;refine S0 ?_;refine S0 (DH ?_ (by size_fits));refine S0 (m:=wb _ _) (NN (a:=EF) (by first|rfl|(simp -u4 only[wb];rfl)) ?_);refine DH ?_ (by size_fits);refine S0 (bv ?_);first|rw[show pB.q70=H0 from hh]|rw[hh]
 refine S0 (E2 (kZ ?_));refine S0 (pT (T:="StopIteration") (b:=I0) ⟨_,BA _ O,O⟩ XZ ?_);exact E2 (hQ _ λ b o e=>rA _ _ _ _ (rA _ _ _ _ e))
end
def sC(G:Gh)(h:O1):It->H1->Prop
 |.V5 l,I=>∃R4 k vs n,WV0 h I R4 k/\B3 R4=E0 (E8 vs n)/\R4∉E5/\A4 G h l (Rf k)
 |.zF i k,I=>i<I3/\NU0 I (Y2 i) k
 |_,_=>I6
def wG(G:Gh)(h:O1):It->K0->P0 H1->Prop
 |.V5 l,v,W=>∃I,v=.J0 I/\W=[I]/\sC G h (.V5 l) I
 |.zF i k,v,W=>∃I,v=.J0 I/\W=[I]/\sC G h (.zF i k) I
 |.dG a n,v,W=>∃I,v=.J0 I/\W=[I]/\Tl h I (a:A2) ((n:A2)-a) 1
 |.r8 a b,v,W=>∃z TI TO i1 i2 x y,v=.J0 z/\W=[z,TO,i1,i2]/\TO∈E5/\TI∉E5/\i1≠i2/\wF h z TI TO .H0/\cC h TI (.J0 i1) (.J0 i2)/\cC h TO x y/\sC G h a i1/\sC G h b i2
 |.JE n a,v,W=>∃e i1 L8,v=.J0 e/\W=[e,i1]/\WP h e i1 (n:A2) L8/\sC G h a i1
theorem sC.O2{h:O1}{a:It}{I:H1}(x:sC G h a I):∃o,B3 I=E0 o/\(F4=.U0 "list_iterator"\/F4=.U0 "tuple_iterator"):=by
 cases a using JP with
 |V5 l=>obtain⟨_,_,_,_,x,_⟩:=x;obtain⟨o,e,c,_⟩:=x;exact⟨o,e,.L2 c⟩
 |zF i k=>obtain⟨_,x⟩:=x;obtain⟨o,e,c,_⟩:=x;exact⟨o,e,.S2 c⟩
 |_=>exact bD
theorem sC.move{h h':O1}(le:wN G')(Q0:zB E5 h h'){a:It}{I:H1}(x:sC G h a I)(hk:∀o,B3 I=E0 o->C3 I=E0 o):sC G' h' a I:=by
 cases a using JP with
 |V5 l=>
  obtain⟨R4,k,vs,n,x,e2,hz,r⟩:=x;obtain⟨o,e,c⟩:=x;exact⟨R4,k,vs,n,⟨o,hk o e,c⟩,Q0 _ _ _ hz e2,by rw[IU];exact hz,UI le Q0⟩
 |zF i k=>
  obtain⟨hi,x⟩:=x;obtain⟨o,e,c⟩:=x;exact⟨U8 hi je,⟨o,hk o e,by rw[BE i hi];exact c⟩⟩
 |_=>exact bD
theorem wG.J6{a:It}{v:K0}{W:P0 H1}(x:wG G W0 a v W)(st:Z2 B F G s G' s')(hW:∀b∈W,s8 B G W0 b/\¬F b):wG G' T6 a v W:=by
 have k:∀b∈W,∀o,E3 b=E0 o->F4≠.U0 "frame"->F4≠.U0 "traceback"->OL b=E0 o:=λ b hb o e h1 h2=>(hW b hb).1.JC st (hW b hb).2 e h1 h2;have Zg:∀{a:It}{I:H1},I∈W->sC G W0 a I->sC G' T6 a I:=λ{a I} hI hs=>hs.move xT DX λ o e=>by
  obtain⟨o',e',c⟩:=hs.O2;rw[e]at e';obtain O:=H3 e';rcases c with c|c<;>exact k I hI o e (by rw[c];simp -u4) (by rw[c];simp -u4)
 cases a using JP with
 |V5 l=>obtain⟨I,O,O,hs⟩:=x;exact⟨I,O,O,Zg (by simp -u4) hs⟩
 |zF i n=>obtain⟨I,O,O,hs⟩:=x;exact⟨I,O,O,Zg (by simp -u4) hs⟩
 |dG a n=>obtain⟨I,O,O,hs⟩:=x;exact⟨I,O,O,k I (by simp -u4) _ hs (by simp -u4) (by simp -u4)⟩
 |r8 a b=>
  obtain⟨z,TI,TO,i1,i2,x,y,O,O,h1,h2,h3,hz,sB,mA,s1,s2⟩:=x;exact⟨z,TI,TO,i1,i2,x,y,O,O,by rw[LX];exact h1,by rw[LX];exact h2,h3,k z (by simp -u4) _ hz (by simp -u4) (by simp -u4),DX TI [.J0 i1,.J0 i2] 0 h2 sB,k TO (by simp -u4) _ mA (by simp -u4) (by simp -u4),Zg (by simp -u4) s1,Zg (by simp -u4) s2⟩
 |JE n a=>
  obtain⟨e,i1,L8,O,O,he,s1⟩:=x;exact⟨e,i1,L8,O,O,k e (by simp -u4) _ he (by simp -u4) (by simp -u4),Zg (by simp -u4) s1⟩
theorem eL0{h:O1}{l:PV}{vs:P0 K0}(r:A4 G h l vs):∀{n},YJ l n=H0->vs[n]?=H0:=by
 refine uG (C:=λ l vs=>∀{n},YJ l n=H0->vs[n]?=H0) (λ _=>O) (λ a r v q _ _ ih{n} h=>?_) r;induction n using ML with
 |i9=>contradiction
 |c9 n=>exact ih h
theorem Uj{a:It}{I:H1}{γ:Type}{f:Q1 (PV×It)->M γ}{P:γ->K1->Prop}{X:C0->K1->Prop}(gd:J1 B A G s)(hs:sC G W0 a I)(hI:s8 B G W0 I)(M0:(F1 sP f R1).P1 P X):
  ∃R4 k G5,A7 W0 I R4 k G5/\(∃vs n,(E3 R4=E0 (E8 vs n)/\R4∉E5)\/E3 R4=E0 (lB vs n))/\
   ((G5[k]?=H0/\(f H0 R1).P1 P X)\/∃x p a',G5[k]?=E0 x/\F3 G W0 p x/\(f (E0 (p,a')) R1).P1 P X/\
    ∀h',zB E5 W0 h'->A7 h' I R4 (k+1) G5->(∀o,E3 R4=E0 o->C3 R4=E0 o)->sC G h' a' I):=by
 cases a using JP with
 |V5 l=>
  obtain⟨R4,k,vs,n,C7,e,hz,r⟩:=hs;have Y6:R4≠I:=λ q=>by obtain⟨o,eo,c,_⟩:=C7;rw[<-q,e]at eo;obtain O:=H3 eo;exact T3 c (by trivial)
  refine⟨R4,k,JB,⟨.L2 ⟨C7,⟨_,e,O,_,O⟩⟩,Y6⟩,⟨vs,n,.S2 ⟨e,hz⟩⟩,?_⟩;cases l using P3 with
  |B0=>
   have r:Rf k=[]:=r;refine .S2 ⟨?_,M0⟩;rw[wq,P0.getElem?_eq_none_iff];exact P0.drop_eq_nil_iff.mp r
  |A0 p q=>
   obtain⟨x,xs,e2,rp,rq⟩:=r;refine .L2 ⟨x,p,.V5 q,?_,rp,M0,λ h' Q0 LD hk=>?_⟩
   ·rw[wq];have:=G6 (λ l=>l[0]?) e2;simpa -u4 using J2
   ·have hd:Rf (k+1)=xs:=by
     rw[<-AV0,e2];rfl
    rcases LD.is with⟨_,hl⟩|⟨vJ,_⟩
    ·obtain⟨o,eo,c,_⟩:=hl;rw[hk _ e]at eo;obtain O:=H3 eo;exact T3 c (by simp -u4)
    ·exact⟨R4,k+1,vs,n,vJ,Q0 _ _ _ hz e,hz,by rw[hd];exact zA0 rq (.L5 G) Q0⟩
  |_=>exact B4
 |zF i k=>
  obtain⟨hi,C7⟩:=hs;have M0:(F1 (λ s=>((match K8 i with|.M1 l=>(match YJ l k with|E0 a=>W1 (E0 (a,nW i (k+1)))|B2=>W1 B2)|_=>F2 63):M (Q1 (PV×It))) s) f R1).P1 P X:=M0;have M0:(F1 ((match O3 i with|.M1 l=>(match YJ l k with|E0 a=>W1 (E0 (a,nW i (k+1)))|B2=>W1 B2)|_=>F2 63):M (Q1 (PV×It))) f R1).P1 P X:=M0;generalize ex:O3 i=zo at M0;cases zo using EA with
  |M1 l=>
   obtain⟨vs,n,e,rl⟩:=sM gd hi ex;have Y6:Y2 i≠I:=λ q=>hI.s9 ⟨i,hi,by rw[ex];simp -u4,q⟩;refine⟨Y2 i,k,JB,⟨.S2 ⟨C7,M9 e⟩,Y6⟩,⟨vs,n,.L2 e⟩,?_⟩;change(F1 (match YJ l k with|E0 a=>W1 (E0 (a,nW i (k+1)))|B2=>W1 B2) f R1).P1 P X at M0;cases hn:YJ l k with
   |H0=>
    rw[hn]at M0;refine .S2 ⟨?_,M0⟩;rw[wq];exact eL0 rl hn
   |E0 p=>
    rw[hn]at M0;obtain⟨u,hu,ru⟩:=Yt rl hn;refine .L2 ⟨u,p,.zF i (k+1),by rw[wq];exact hu,ru,M0,λ h' Q0 LD hk=>⟨hi,?_⟩⟩;rcases LD.is with⟨vJ,_⟩|⟨_,hl⟩
    ·exact vJ
    ·obtain⟨o,eo,c,_⟩:=hl;rw[hk _ e]at eo;obtain O:=H3 eo;exact T3 c (by simp -u4)
  |_=>exact B4
 |dG=>exact KB0
 |r8=>exact KB0
 |JE=>exact KB0
end
end
section
section
open PyProof.Rows
variable{B:Bs}{A:Around}{G G':Gh}{s s':Shared}{F:Addr->Prop}{FZ:Nat->Bool}
set_option backward.match.sparseCases true in
theorem l40{M:UB}{E:K0->D1->Prop}{P4:v0}{I:H1}{u:K0}{o:C4}{Q:S7->D1->Prop}(ho:E3 I=E0 o)(hc:F4=.U0 "list_iterator"\/F4=.U0 "tuple_iterator"\/F4=.U0 "range_iterator")(h:Q () s):
  V0 M A (db P4 (.J0 I) u) Q E s:=by
 have hp:V0 M A (J4 ()) Q E s:=E2 h;have T7:V0 M A (do
   let(.J0 r,.J0 a):=((w6 I,u):K0×K0)|return
   let o <-load r
   match F4,F9 with
   |.U0 n,.R5 vs=>
    if["enumerate","zip","dict_itemiterator","dict_reverseitemiterator","odict_iterator","itertools.zip_longest","itertools.pairwise"].RG n&&vs[0]?==E0 (i5 a)then
     rule "for.unpacks-the-owned-tuple"
     updateField r 0 .H0
   |_,_=>J4 ()) Q E s:=by
  cases u using EP with
  |J0 a=>
   refine S0 (Wl ho ?_);obtain⟨n,hn,Y6⟩:∃n,F4=.U0 n/\["enumerate","zip","dict_itemiterator","dict_reverseitemiterator","odict_iterator","itertools.zip_longest","itertools.pairwise"].RG n=R0:=by
    rcases hc with c|c|c<;>exact⟨_,c,by decide⟩
   rw[hn];generalize F9=dt;cases dt with
   |R5 vs=>dsimp only;rw[Y6];exact hp
   |_=>exact hp
  |_=>exact hp
 cases P4<;>first|exact T7|exact hp
def AJ:It->I1
 |.r8 _ _=>I0
 |.JE _ _=>I0
 |_=>R0
def xG(W:P0 H1)(b:H1):Prop:=b∈W
theorem Vj{h:O1}{T:H1}{p q:PV}{x y:K0}(hT:B3 T=E0 (E8 [x,y] 0))(hz:T∉E5)(rx:F3 G h p x)(ry:F3 G h q y):F3 G h (.Q0 (.A0 p (.A0 q .B0))) (.J0 T):=
 ⟨T,[x,y],0,O,hz,hT,x,[y],O,rx,y,[],O,ry,O⟩
theorem m40(gd:J1 B A G s):P2∉E5:=λ q=>by
 obtain⟨_,o,e⟩:=Un _ q;exact T3 (o9 e) (YZ _)
def jc(B:Bs)(A:B6)(s:D1)(P4:v0)(v:K0)(Kn:D1->Prop)(Ks E:K0->D1->Prop):Prop:=
 V0 R2 A (sF v) (λ r s1=>match r with|H0=>Kn s1|E0 u=>V0 R2 A (db P4 v u) (λ _ s2=>Ks u s2) E s1) E s
def OT(G:Gh)(h:O1)(b:H1):Prop:=∀o,B3 b=E0 o->F4≠.U0 "frame"/\F4≠.U0 "traceback"/\F4≠.U0 "code"/\(b∉E5->F4≠.U0 "tuple")
theorem n40{h:O1}{b:H1}{o:C4}{t:U6}(e:B3 b=E0 o)(c:F4=.U0 t)(n:t≠"frame"/\t≠"traceback"/\t≠"code")(m:b∉E5->t≠"tuple"):OT G h b:=λ o' e'=>by
 obtain O:=H3 (e'.SZ e);rw[c];exact⟨zb n.1,zb n.2.1,zb n.2.2,λ q=>zb (m q)⟩
theorem oY{h:O1}{b:H1}{o:C4}{t:U6}(e:B3 b=E0 o)(c:F4=.U0 t)(n:(t≠"frame"/\t≠"traceback"/\t≠"code")/\t≠"tuple"):OT G h b:=n40 e c n.1 λ _=>n.2
theorem qc{h:O1}{b:H1}{o:C4}(e:B3 b=E0 o)(c:F4=.U0 "list_iterator"\/F4=.U0 "tuple_iterator"):OT G h b:=Bo (λ c=>oY e c (by decide)) λ c=>oY e c (by decide)
theorem Kz{W:P0 H1}{h':O1}{tk:O6}(gd:J1 B A G s)(oA:∀b∈W,s8 B G W0 b)(h4:∀b∈W,OT G W0 b)(hk:∀b o,b∉W->E3 b=E0 o->C3 b=E0 o)(ha:∀b∈W,∃o,C3 b=E0 o):
  J1 B A G {s with A3:=h',y3:=tk}/\Z2 B (xG W) G s G {s with A3:=h',y3:=tk}:=gd.wr (λ b hb=>⟨oA b hb,hb,h4 b hb⟩) hk ha
theorem Wj{W:P0 H1}{I:H1}{h':O1}{tk:O6}(gd:J1 B A G s)(oA:∀b∈W,s8 B G W0 b)(hW:W=[I])(h4:OT G W0 I)(hk:∀b o,b≠I->E3 b=E0 o->C3 b=E0 o)(ha:∃o,C3 I=E0 o):
  J1 B A G {s with A3:=h',y3:=tk}/\Z2 B (xG W) G s G {s with A3:=h',y3:=tk}:=
 Kz gd oA (λ b hb=>lT (hW▸hb)▸h4) (λ b o hb e=>hk b o (λ q=>hb (hW▸Ki q)) e) λ b hb=>lT (hW▸hb)▸ha
theorem o40{z t i j:H1}:∀{b},b∈[z,t,i,j]↔b=z\/b=t\/b=i\/b=j:=by simp
theorem p40{i j:H1}:∀{b},b∈[i,j]↔b=i\/b=j:=by simp
theorem fL0{a a':It}{v:K0}{W:P0 H1}{I:H1}{h h':O1}(hv:v=.J0 I)(hW:W=[I])(hs:sC G h a I)(sa:sC G h' a' I):wG G h' a' v W/\AJ a'=AJ a:=by
 have e:∀{a:It}{h:O1},sC G h a I->AJ a=R0:=λ{a h} x=>by
  cases a using JP with
  |V5=>rfl
  |zF=>rfl
  |_=>exact bD
 refine⟨?_,(e sa).V2 (e hs).Y3⟩;cases a' using JP with
 |V5=>exact⟨I,hv,hW,sa⟩
 |zF=>exact⟨I,hv,hW,sa⟩
 |_=>exact sa.HB
section
variable{W:List Addr}{γ:Type}{f:Option (PV×It)->M γ}{P:γ->K1->Prop}{X:Nat->K1->Prop}{Kn:Shared->Prop}{Ks:Value->Shared->Prop}{E:Value->Shared->Prop}
theorem q40{a:It}{I:H1}{P4:v0}(hh:C9=H0)(gd:J1 B A G s)(oA:∀b∈W,s8 B G W0 b)(M0:(F1 sP f R1).P1 P X)
  (hn:∀s',Z2 B (xG W) G s G s'->J1 B A G s'->(f H0 R1).P1 P X->Kn s')
  (hs:∀s' p u a',Z2 B (xG W) G s G s'->J1 B A G s'->F3 G T6 p u->AJ a'=AJ a->wG G T6 a' (.J0 I) W->(f (E0 (p,a')) R1).P1 P X->Ks u s')
  (hW:W=[I])(Ga:sC G W0 a I):jc B A s P4 (.J0 I) Kn Ks E:=by
 symm;obtain⟨o,eo,co⟩:=Ga.O2;obtain⟨R4,k,G5,DL,hkind,hres⟩:=Uj gd Ga (oA I (by rw[hW];exact Ki O)) M0;rcases hres with⟨hx,hf⟩|⟨u,p,a',hx,ru,hf,WK⟩
 ·ext;refine wu hh DL hx λ h' gL0 ha=>?_;obtain⟨g1,D2⟩:=Wj (h':=h') (tk:=X4) gd oA hW (qc eo co) (λ b o hb e=>gL0 b o hb e) ha;exact hn _ D2 g1 hf
 ·ext;refine uu DL hx λ h' r40 uJ=>?_;have ha:∃o,C3 I=E0 o:=by obtain⟨⟨o,e,_⟩,_⟩:=r40.e9;exact⟨o,e⟩
  symm;obtain⟨g1,D2⟩:=Wj (h':=h') (tk:=X4) gd oA hW (qc eo co) (λ b o hb e=>YL b o hb e) ha;have sa:=WK h' Z_ r40 λ o e=>YL _ _ DL.ne e;obtain⟨o',eo',co'⟩:=sa.O2;obtain⟨ia,pa⟩:=fL0 O hW Ga sa;ext;exact l40 eo' (co'.JM id .S2) (hs _ p u a' D2 g1 (NK D2) pa ia hf)
theorem hL0{m n:C0}{I:H1}{P4:v0}(hh:C9=H0)(gd:J1 B A G s)(oA:∀b∈W,s8 B G W0 b)(M0:(F1 (YU m n).W4 f R1).P1 P X)
  (hn:∀s',Z2 B (xG W) G s G s'->J1 B A G s'->(f H0 R1).P1 P X->Kn s')
  (hs:∀s' p u a',Z2 B (xG W) G s G s'->J1 B A G s'->F3 G T6 p u->AJ a'=R0->wG G T6 a' (.J0 I) W->(f (E0 (p,a')) R1).P1 P X->Ks u s')
  (hW:W=[I])(C7:Tl W0 I (m:A2) ((n:A2)-m) 1):jc B A s P4 (.J0 I) Kn Ks E:=by
 symm;change(F1 (bif X6 m n then W1 (E0 (aU (.N4 m),YU (m+1) n))else W1 H0) f R1).P1 P X at M0;have p4:OT G W0 I:=oY C7 O (by decide);cases VF:X6 m n with
 |I0=>
  rw[VF]at M0;have M0:(f (E0 (aU (.N4 m),YU (m+1) n)) R1).P1 P X:=M0;have hmn:m<n:=by simpa[EH]using VF
  ext;refine wpAny_pyNext_range_item C7 (by exact ω84 ‹_›) λ h' vJ uJ=>?_;obtain⟨g1,D2⟩:=Wj (h':=h') (tk:=X4+1) gd oA hW p4 (λ b o hb e=>YL b o hb e) ⟨_,vJ⟩;refine l40 vJ (.L2 (.L2 O)) (hs _ (.j0 (.N4 m)) _ (.dG (m+1) n) D2 g1 ⟨_,O⟩ O ⟨I,O,hW,?_⟩ M0);have e2:(n:A2)-((m+1:C0):A2)=(n:A2)-m-1:=by push_cast;exact(A2.sub_sub _ _ _).Y3
  rw[e2];exact vJ
 |R0=>
  rw[VF]at M0;ext;have hmn:¬m<n:=by intro q;rw[show X6 m n=I0 from(by simpa[EH]using q)]at VF;exact I1.noConfusion VF
  refine dL0 hh C7 (by exact ω75 ‹_›) λ h' hk=>?_;obtain⟨g1,D2⟩:=Wj (h':=h') (tk:=X4) gd oA hW p4 (λ b o _ e=>hk b o e) ⟨_,hk _ _ C7⟩;exact hn _ D2 g1 M0
theorem wM{h:O1}{i c:H1}{o o':C4}{t:U6}(e:B3 i=E0 o)(k:F4=.U0 "list_iterator"\/F4=.U0 "tuple_iterator")(e':B3 c=E0 o')(k':RK=.U0 t)(n:"list_iterator"≠t/\"tuple_iterator"≠t):i≠c:=
 k.HB (λ k=>iM e e' k k' n.1) λ k=>iM e e' k k' n.2
def Xj(G:Gh)(h:O1)(l:H1):Prop:=∃vs n,(B3 l=E0 (E8 vs n)/\l∉E5)\/B3 l=E0 (lB vs n)
theorem s40{h:O1}{z TI TO i1 i2 l1 l2:H1}{x0 y0:K0}{o1 o2:C4}(jQ:TO∈E5)(PT:TI∉E5)(jV:i1≠i2)(hz:wF h z TI TO .H0)(sB:cC h TI (.J0 i1) (.J0 i2))(mA:cC h TO x0 y0)
  (e1:B3 i1=E0 o1)(c1:o1.O2=.U0 "list_iterator"\/o1.O2=.U0 "tuple_iterator")(e2:B3 i2=E0 o2)(c2:o2.O2=.U0 "list_iterator"\/o2.O2=.U0 "tuple_iterator")(nI:Xj G h l1)(ZG:Xj G h l2):Qe z TI TO i1 i2 l1 l2:=by
 have t40:∀{l:H1},Xj G h l->l≠z/\l≠TO/\l≠i1/\l≠i2:=λ{l} x=>by
  obtain⟨vs,n,x⟩:=x;rcases x with⟨e,JO⟩|e
  ·exact⟨iM e hz O O (by decide),λ q=>JO (q▸jQ),(wM e1 c1 e O (by decide)).Y3,(wM e2 c2 e O (by decide)).Y3⟩
  ·exact⟨iM e hz O O (by decide),iM e mA O O (by decide),(wM e1 c1 e O (by decide)).Y3,(wM e2 c2 e O (by decide)).Y3⟩
 obtain⟨a1,a2,a3,a4⟩:=t40 nI;obtain⟨b1,b2,b3,b4⟩:=t40 ZG;exact⟨iM sB hz O O (by decide),iM mA hz O O (by decide),wM e1 c1 hz O (by decide),wM e2 c2 hz O (by decide),λ q=>PT (q▸jQ),(wM e1 c1 sB O (by decide)).Y3,(wM e2 c2 sB O (by decide)).Y3,
  (wM e1 c1 mA O (by decide)).Y3,(wM e2 c2 mA O (by decide)).Y3,jV,a1,a2,a3,a4,b1,b2,b3,b4⟩
theorem iL0{a b:It}{z TI TO i1 i2:H1}{x0 y0:K0}{te:P0 v0}{Ha:C0}{tp:Q3}(hh:C9=H0)(gd:J1 B A G s)(oA:∀b∈W,s8 B G W0 b)(M0:(F1 (gz a b).W4 f R1).P1 P X)
  (hn:∀s',Z2 B (xG W) G s G s'->J1 B A G s'->(f H0 R1).P1 P X->Kn s')
  (hs:∀s' p u a',Z2 B (xG W) G s G s'->J1 B A G s'->F3 G T6 p u->AJ a'=I0->wG G T6 a' (.J0 z) W->(f (E0 (p,a')) R1).P1 P X->Ks u s')
  (hW:W=[z,TO,i1,i2])(jQ:TO∈E5)(PT:TI∉E5)(jV:i1≠i2)(hz:wF W0 z TI TO .H0)(sB:cC W0 TI (.J0 i1) (.J0 i2))(mA:cC W0 TO x0 y0)(s1:sC G W0 a i1)(s2:sC G W0 b i2):jc B A s (.P9 te Ha tp) (.J0 z) Kn Ks E:=by
 symm;have m1:i1∈W:=hW▸uA0 (.L2 (.L2 (.S2 O)));have m2:i2∈W:=hW▸uA0 (.L2 (.L2 (.L2 O)));obtain⟨o1,e1,c1⟩:=s1.O2;obtain⟨o2,e2,c2⟩:=s2.O2;have wr4:∀{h':O1}{tk:O6},(∀c o,c≠z->c≠TO->c≠i1->c≠i2->E3 c=E0 o->C3 c=E0 o)->(∀c,c=z\/c=TO\/c=i1\/c=i2->∃o,C3 c=E0 o)->
   J1 B A G {s with A3:=h',y3:=tk}/\Z2 B (xG W) G s G {s with A3:=h',y3:=tk}:=λ hk ha=>
  Kz gd oA (λ b hb=>Ni (P:=OT G W0) (o40.mp (hW▸hb)) (oY hz O (by decide)) (n40 mA O (by decide) λ z=>T3 jQ z) (qc e1 c1) (qc e2 c2))
   (λ b o hb e=>have hb:=λ q=>hb (hW▸uA0 q);hk b o (λ q=>hb (.S2 q)) (λ q=>hb (.L2 (.S2 q))) (λ q=>hb (.L2 (.L2 (.S2 q)))) (λ q=>hb (.L2 (.L2 (.L2 q)))) e) λ b hb=>ha b (o40.mp (hW▸hb))
 have D4:(F1 sP (λ x=>F1 ((match x with
   |E0 p=>F1 b.W4 λ y=>(match y with
    |E0 q=>W1 (E0 (wm (.A0 p.1 (.A0 q.1 .B0)),gz p.2 q.2))
    |H0=>W1 H0)
   |H0=>W1 H0):M (Q1 (PV×It))) f) R1).P1 P X:=AB M0
 obtain⟨l1,k1,xs,jH,nI,xu⟩:=Uj gd s1 (oA i1 m1) D4;have hT:aC (.J0 z) "zip":=⟨_,hz,O⟩;have stop:∀{l2:H1}{k2:C0}{ys:L4 K0},Xj G W0 l2->(xs[k1]?=H0\/(A7 W0 i2 l2 k2 ys/\ys[k2]?=H0))->(f H0 R1).P1 P X->jc B A s (.P9 te Ha tp) (.J0 z) Kn Ks E:=λ{l2 k2 ys} ZG lU hf=>by
  refine S0 (GI (iF (W2:=DA "__next__") hT KL
   (TC KL hT Qb (h40 hh (s40 jQ PT jV hz sB mA e1 c1 e2 c2 nI ZG) hz sB mA jH ⟨o2,e2⟩ lU λ h' e hk he ha=>?_) (Hb _))))
  obtain⟨o,ho,hc⟩:=he;refine S0 (pT (T:="StopIteration") (b:=I0) ⟨o,ho,hc⟩ XZ ?_);obtain⟨g1,D2⟩:=wr4 (h':=h') (tk:=X4) hk ha;exact E2 (hn _ D2 g1 hf)
 rcases xu with⟨hx,hf⟩|⟨u,p,a',hx,ru,hf,yu⟩
 ·ext;exact stop (k2:=k1) (ys:=xs) nI (.S2 hx) hf
 ·have A5:(F1 b.W4 (λ y=>F1 ((match y with
    |E0 q=>W1 (E0 (wm (.A0 p (.A0 q.1 .B0)),gz a' q.2))
    |H0=>W1 H0):M (Q1 (PV×It))) f) R1).P1 P X:=AB hf
  obtain⟨l2,k2,ys,hH,ZG,jL0⟩:=Uj gd s2 (oA i2 m2) A5;rcases jL0 with⟨hy,DS⟩|⟨u2,p2,b',hy,lV,DS,kL0⟩
  ·ext;exact stop ZG (.L2 ⟨hH,hy⟩) DS
  ·have DS:(f (E0 (wm (.A0 p (.A0 p2 .B0)),gz a' b')) R1).P1 P X:=DS;have D:=s40 jQ PT jV hz sB mA e1 c1 e2 c2 nI ZG;ext;clear stop D4 A5 M0 hn;refine S0 (GI (iF (W2:=DA "__next__") hT KL
    (TC KL hT Qb (d40 D hz sB mA jH hH hx hy λ h' JO Yj uc ag cK Y7 hk=>E2 ?_) (Hb _))))
   have zT:z≠P2:=WC (o9 hz);refine wpAny_letOwnedTupleGo_zip JO λ TJ u40 uJ=>?_;symm;have up:∀c o,c≠z->C3 c=E0 o->E_ c=E0 o:=λ c o hc e=>YL c o hc e;have zu:∀c o,c≠z->c≠TO->c≠i1->c≠i2->E3 c=E0 o->E_ c=E0 o:=λ c o c1 c2 c3 c4 e=>up c o c1 (hk c o c1 c2 c3 c4 e);have v40:A7 TJ i1 l1 (k1+1) xs:=uc.at (λ o e=>up _ o UP e) λ o e=>up _ o jR e;have w40:A7 TJ i2 l2 (k2+1) ys:=ag.at (λ o e=>up _ o sN e) λ o e=>up _ o N_ e;ext;have th:∀{i l k xs},A7 TJ i l k xs->∃o,E_ i=E0 o:=λ x=>by obtain⟨⟨o,e,_⟩,_⟩:=x.e9;exact⟨o,e⟩
   obtain⟨g1,D2⟩:=wr4 (h':=TJ) (tk:=X4) zu λ c hc=>Ni (P:=λ c=>∃o,E_ c=E0 o) hc ⟨_,u40⟩ ⟨_,up _ _ rN Yj⟩ (th v40) (th w40);refine hs _ _ _ (.r8 a' b') D2 g1 (Vj (up _ _ zT.Y3 cK) (m40 gd) (NK D2) (lV.J6 D2)) O ?_ DS;exact⟨z,TI,TO,i1,i2,_,_,O,hW,jQ,PT,jV,u40,Z_ TI [.J0 i1,.J0 i2] 0 PT sB,up _ _ rN Yj,
    yu TJ Z_ v40 λ o e=>zu _ o jR dA0 D.l1i1 eA0 e,kL0 TJ Z_ w40 λ o e=>zu _ o N_ Uy Vm D.l2i2 e⟩
theorem lL0{a:It}{n:C0}{e i1:H1}{L8:K0}{te:P0 v0}{Ha:C0}{tp:Q3}(hh:C9=H0)(gd:J1 B A G s)(oA:∀b∈W,s8 B G W0 b)(M0:(F1 (LB0 n a).W4 f R1).P1 P X)
  (hn:∀s',Z2 B (xG W) G s G s'->J1 B A G s'->(f H0 R1).P1 P X->Kn s')
  (hs:∀s' p u a',Z2 B (xG W) G s G s'->J1 B A G s'->F3 G T6 p u->AJ a'=I0->wG G T6 a' (.J0 e) W->(f (E0 (p,a')) R1).P1 P X->Ks u s')
  (hW:W=[e,i1])(he:WP W0 e i1 (n:A2) L8)(s1:sC G W0 a i1):jc B A s (.P9 te Ha tp) (.J0 e) Kn Ks E:=by
 obtain⟨o1,e1,c1⟩:=s1.O2;have Y6:e≠i1:=(wM e1 c1 he O (by decide)).Y3;have wr2:∀{h':O1}{tk:O6},(∀c o,c≠e->c≠i1->E3 c=E0 o->C3 c=E0 o)->(∃o,C3 e=E0 o)->(∃o,C3 i1=E0 o)->
   J1 B A G {s with A3:=h',y3:=tk}/\Z2 B (xG W) G s G {s with A3:=h',y3:=tk}:=λ{h' tk} hk a1 a2=>
  Kz gd oA (λ b hb=>Mi (P:=OT G W0) (p40.mp (hW▸hb)) (oY he O (by decide)) (qc e1 c1))
   (λ b o hb e=>have hb:=λ q=>hb (hW▸p40.B8 q);hk b o (λ q=>hb (.S2 q)) (λ q=>hb (.L2 q)) e) λ b hb=>Mi (P:=λ b=>∃o,C3 b=E0 o) (p40.mp (hW▸hb)) a1 a2
 have D4:(F1 sP (λ x=>F1 ((match x with
   |E0 p=>W1 (E0 (wm (.A0 (.j0 (.N4 n)) (.A0 p.1 .B0)),LB0 (n+1) p.2))
   |H0=>W1 H0):M (Q1 (PV×It))) f) R1).P1 P X:=AB M0
 obtain⟨l1,k1,xs,jH,nI,xu⟩:=Uj gd s1 (oA i1 (hW▸p40.B8 (.L2 O))) D4;have iH:l1≠e:=by
  obtain⟨vs,n,x⟩:=nI;exact bD (λ x=>iM x.1 he O O (by decide)) λ x=>iM x he O O (by decide)
 have hT:aC (.J0 e) "enumerate":=⟨_,he,O⟩;clear D4 M0;rcases xu with⟨hx,hf⟩|⟨u,p,a',hx,ru,hf,yu⟩
 ·clear hs;refine S0 (GI (iF (W2:=DA "__next__") hT PQ
   (TC PQ hT Pi (cL0 hh he jH hx λ h' e' hk NO ti=>?_) (lh _))))
  obtain⟨o,ho,hc⟩:=NO;refine S0 (pT (T:="StopIteration") (b:=I0) ⟨o,ho,hc⟩ XZ ?_);obtain⟨g1,D2⟩:=wr2 (h':=h') (tk:=X4) (λ c o _ c2 e=>hk c o c2 e) ⟨_,hk _ _ Y6 he⟩ ti;exact E2 (hn _ D2 g1 hf)
 ·have hf:(f (E0 (wm (.A0 (.j0 (.N4 n)) (.A0 p .B0)),LB0 (n+1) a')) R1).P1 P X:=hf;clear hn;refine S0 (GI (iF (W2:=DA "__next__") hT PQ
   (TC PQ hT Pi (j40 he jH hx Y6 iH λ h' mI wc cK Y7 hk=>E2 ?_) (lh _))))
  have zT:e≠P2:=WC (o9 he);refine wpAny_letOwnedTupleGo_enum mI λ TJ x40 uJ=>?_;have up:∀c o,c≠e->C3 c=E0 o->E_ c=E0 o:=λ c o hc e=>YL c o hc e;have ZG:∀c o,c≠e->c≠i1->E3 c=E0 o->E_ c=E0 o:=λ c o c1 c2 e=>up c o c1 (hk c o c1 c2 e);have y40:A7 TJ i1 l1 (k1+1) xs:=wc.at (λ o e=>up _ o TR e) λ o e=>up _ o iH e;obtain⟨g1,D2⟩:=wr2 (h':=TJ) (tk:=X4+1) ZG ⟨_,x40⟩ (by obtain⟨⟨o,e,_⟩,_⟩:=y40.e9;exact⟨o,e⟩);refine hs _ _ _ (.JE (n+1) a') D2 g1 (Vj (p:=.j0 (.N4 n)) (up _ _ zT.Y3 cK) (m40 gd) ⟨X4,O⟩ (NK D2)) O ⟨e,i1,u,O,hW,by rw[show((n+1:C0):A2)=(n:A2)+1 from by push_cast;rfl];exact x40,?_⟩ hf;exact yu TJ Z_ y40 λ o e=>ZG _ o iH jH.ne e
theorem Zj{a:It}{v:K0}{W:P0 H1}{P4:v0}(hh:C9=H0)(gd:J1 B A G s)(x:wG G W0 a v W)(oA:∀b∈W,s8 B G W0 b)(ht:AJ a=I0->∃e k p,P4=.P9 e k p)
  {γ:Type}{f:Q1 (PV×It)->M γ}{P:γ->K1->Prop}{X:C0->K1->Prop}(M0:(F1 sP f R1).P1 P X){Kn:D1->Prop}{Ks:K0->D1->Prop}{E:K0->D1->Prop}
  (hn:∀s',Z2 B (xG W) G s G s'->J1 B A G s'->(f H0 R1).P1 P X->Kn s')
  (hs:∀s' p u a',Z2 B (xG W) G s G s'->J1 B A G s'->F3 G T6 p u->AJ a'=AJ a->wG G T6 a' v W->(f (E0 (p,a')) R1).P1 P X->Ks u s'):
  V0 R2 A (sF v) (λ r s1=>match r with|H0=>Kn s1|E0 u=>V0 R2 A (db P4 v u) (λ _ s2=>Ks u s2) E s1) E s:=by
 cases a using JP with
 |V5 l=>obtain⟨I,O,hW,x⟩:=x;exact q40 hh gd oA M0 hn hs hW x
 |zF i k=>obtain⟨I,O,hW,x⟩:=x;exact q40 hh gd oA M0 hn hs hW x
 |dG m n=>obtain⟨I,O,hW,x⟩:=x;exact hL0 hh gd oA M0 hn hs hW x
 |r8 a b=>
  symm;obtain⟨te,Ha,tp,O⟩:=ht O;obtain⟨z,TI,TO,i1,i2,x0,y0,O,hW,jQ,PT,jV,hz,sB,mA,s1,s2⟩:=x;ext;exact iL0 hh gd oA M0 hn hs hW jQ PT jV hz sB mA s1 s2
 |JE n a=>
  symm;obtain⟨te,Ha,tp,O⟩:=ht O;obtain⟨e,i1,L8,O,hW,he,s1⟩:=x;ext;exact lL0 hh gd oA M0 hn hs hW he s1
end
end
end
section
section
open PyProof.Rows
variable{B:Bs}{A:Around}{G G':Gh}{s s':Shared}{F:Addr->Prop}{FZ:Nat->Bool}
def Gh.kW(G:Gh)(l:P0 H1):Gh:=⟨R1,Y2,I5,l⟩
theorem rG.kW{G:Gh}{i:C0}{e:K0}{l:P0 H1}(x:rG G i e):rG (EO l) i e:=by obtain⟨a,b,c,d,f,h⟩:=x;exact⟨a,b,c,d,f,h⟩
section
variable{h h':Heap}{l:List Addr}
def EL(G:Gh)(h:O1)(l:P0 H1)(h':O1):Prop:=∀b vs k,b∉E5->B3 b=E0 (E8 vs k)->b∉l/\C3 b=E0 (E8 vs k)
theorem yc(hk:EL G h l h'){p:PV}{v:K0}(x:F3 G h p v):F3 (EO l) h' p v:=
 (RY (A8 _) (λ _ _=>O) hk (λ i v x=>⟨x.1,uK hk x.2⟩) (λ i v x=>⟨x.1,uK hk x.2⟩) (λ i v x=>⟨x.1,uK hk x.2⟩) p).1 v x
theorem A50(hk:EL G h l h'){p:PV}{v:P0 K0}(x:A4 G h p v):A4 (EO l) h' p v:=
 (RY (A8 _) (λ _ _=>O) hk (λ i v x=>⟨x.1,uK hk x.2⟩) (λ i v x=>⟨x.1,uK hk x.2⟩) (λ i v x=>⟨x.1,uK hk x.2⟩) p).2 v x
theorem B50(hk:EL G h l h'):∀{p:PV}{v:P0 (C1×K0)},S8 G h p v->S8 (EO l) h' p v:=by
 intro p;induction p with
 |kv k v r _ ih=>exact λ⟨x,u,q,e,h0,hx,hv,hr⟩=>⟨x,u,q,e,h0,hx,yc hk hv,ih hr⟩
 |B0=>exact λ x=>x
 |_=>exact λ x=>bD
theorem C50(hk:EL G h l h')(k3:UE h h'){a:H1}{o:AO}(x:vE B G h a o)(ha:∀ob,B3 a=E0 ob->C3 a=E0 ob):vE B (EO l) h' a o:=by
 cases o using EA with
 |K4=>trivial
 |M1 l=>obtain⟨vs,k,e,r⟩:=x;exact⟨vs,k,ha _ e,A50 hk r⟩
 |H2 l=>obtain⟨U2,⟨o,es,ep,e,q⟩,r⟩:=x;exact⟨U2,⟨o,es,ep,ha _ e,q⟩,B50 hk r⟩
 |V6 l=>obtain⟨U2,o,e,hc,hn,nd,r⟩:=x;exact⟨U2,o,ha _ e,hc,hn.at λ o e=>ha _ e,nd,B50 hk r⟩
 |u7 c d=>obtain⟨e,hl,q⟩:=x;exact⟨ha _ e,hl,q⟩
 |J8 cx c d=>obtain⟨vs,e,hl,q,t⟩:=x;exact⟨vs,ha _ e,hl,q,k3.HW0 t⟩
 |lA k=>
  refine B.HI0 k h h' a (λ b o e q=>?_) x;rcases q with O|q
  ·exact ha _ e
  ·exact k3.YA b o e q
 |bm f s=>obtain⟨u,e,r⟩:=x;exact⟨u,ha _ e,yc hk r⟩
 |R4=>obtain⟨x,t,y,u,k,e⟩:=x;exact⟨x,t,y,u,k,ha _ e⟩
 |ti=>exact bD
end
theorem J1.grow{h':O1}{tk:O6}{l:P0 H1}(g:J1 B A G s)(k:∀b o,E3 b=E0 o->C3 b=E0 o)(hl:∀b∈l,P2<=b/\∃o,C3 b=E0 o):
  J1 B A (EO (l++E5)) {s with A3:=h',y3:=tk}:=by
 have k3:=cm k;have hk:EL G W0 (l++E5) h':=λ b vs n hb e=>⟨λ q=>by
  rcases vi q with q|q
  ·exact T3 (o9 e) (sb (hl b q).1)
  ·exact hb q,k _ _ e⟩
 obtain⟨fr,y8,FO⟩:=SJ;refine⟨⟨Gn,Km,Bn⟩,⟨QG,λ i hi=>C50 hk k3 (GA i hi) λ ob e=>k _ _ e,XL,vC,λ a ha=>?_⟩,λ b o e h1 h2 h3=>k _ _ (QB b o e h1 h2 h3),
  qR _ _ (λ b o e _=>k _ _ e) gE,fr,y8,Hn k3⟩
 rcases vi ha with q|q
 ·exact⟨(SN g (hl a q).1).2.1,(hl a q).2⟩
 ·obtain⟨h1,o,e⟩:=xD a q;exact⟨h1,o,k _ _ e⟩
theorem J1.SG{l:P0 H1}(g:J1 B A G s)(hl:∀b∈l,b∈E5):J1 B A (EO l) s:=by
 have hk:EL G W0 l W0:=λ b vs n hb e=>⟨λ q=>hb (hl b q),e⟩;obtain⟨fr,y8,FO⟩:=SJ;exact⟨⟨Gn,Km,Bn⟩,⟨QG,λ i hi=>C50 hk (.L5 _) (GA i hi) λ ob e=>e,XL,vC,λ a ha=>xD a (hl a ha)⟩,QB,gE,fr,y8,FO⟩
theorem iz{N0:o6}{D:C1->Prop}{O0:PV}{h h':O1}{l:P0 H1}(x:T5 B N0 D O0 G h)(hk:EL G h l h')(k:∀b o,B3 b=E0 o->C3 b=E0 o):T5 B N0 D O0 (EO l) h':=by
 obtain⟨m,hn,hm⟩:=x.ns;have kc:∀{c u},h.WW c u->a00 c u:=λ zz=>f_ zz λ o e d=>⟨o,k _ _ e,d⟩;refine⟨⟨m,Cn hn λ o e=>⟨o,k _ _ e,O⟩,λ y v h1 h2 h3 h4=>?_⟩,λ y v h1 h3 h4=>?_,λ y c hl=>?_,x.jU,x.TP,wf,vf,m00⟩
 ·obtain⟨u,hu,r⟩:=hm y v h1 h2 h3 h4;exact⟨u,hu,yc hk r⟩
 ·obtain⟨c,u,hl,hc,r⟩:=x.l6 y v h1 h3 h4;exact⟨c,u,hl,kc hc,yc hk r⟩
 ·obtain⟨u,hu⟩:=x.Si y c hl;exact⟨u,kc hu⟩
theorem Qy{h':O1}{tk:O6}{l:P0 H1}{F':H1->Prop}(k:∀b o,E3 b=E0 o->C3 b=E0 o)(hl:∀b∈l,E3 b=H0)
  (st:Z2 B F (EO (l++E5)) {s with A3:=h',y3:=tk} G' s')(hF:∀b,F b->F' b\/E3 b=H0):Z2 B F' G s (jz E5) s':=by
 obtain⟨h2,t2,O⟩:=Ff;refine⟨⟨h2,t2,O⟩,⟨xT.n,b_,O,xT.m,st.NX⟩,λ b hb=>?_,λ b o e=>Zf b o (k b o e),λ b o e h1 h3 h4=>GX b o (k b o e) h1 (λ q=>?_) h4,λ b vs n hb e=>DX b vs n (λ q=>?_) (k _ _ e),(cm k).V2 xW⟩
 ·rcases Kf b hb with h|h
  ·exact .S2 h
  ·refine .L2 ?_;cases e:E3 b with
   |H0=>rfl
   |E0 o=>have:=k b o e;rw[show({s with A3:=h',y3:=tk}:D1).A3.W5 b=C3 b from O,J2]at h;contradiction
 ·rcases hF b q with q|q
  ·exact h3 q
  ·rw[e]at q;contradiction
 ·rcases vi q with q|q
  ·rw[hl b q]at e;contradiction
  ·exact hb q
def x9(k:I1)(h:O1)(l:H1)(xs:L4 K0):Prop:=match k with|I0=>wx l xs|R0=>Cz h l xs
def itT:I1->U6|I0=>"list_iterator"|R0=>"tuple_iterator"
def BC(k:I1)(l:H1):C4:={O2:=.U0 (itT k),L3:=.R5 #[.J0 l,.j0 0 0]}
theorem x9.at{k:I1}{h h':O1}{l:H1}{xs:L4 K0}(x:x9 k h l xs)(hk:∀o,B3 l=E0 o->C3 l=E0 o):x9 k h' l xs:=by
 cases k using n7
 ·obtain⟨o,e,r⟩:=x;exact⟨o,hk o e,r⟩
 ·obtain⟨o,e,r⟩:=x;exact⟨o,hk o e,r⟩
theorem x9.y6{k:I1}{h:O1}{l:H1}{xs:L4 K0}(x:x9 k h l xs)(o:C4):x9 k (iN o) l xs:=x.at λ _ e=>rA _ _ _ _ e
section
variable{prog:Program}{w:World}{E:Value->Shared->Prop}
theorem QT{k:I1}{l:H1}{xs:L4 K0}{Q:K0->D1->Prop}(hl:x9 k W0 l xs)(hQ:Q (.J0 P2) {s with A3:=F8 (BC k l)}):V0 (T4 K3 w) A (C_ (.J0 l)) Q E s:=by
 cases k using n7
 ·exact iter_tuple hl hQ
 ·exact wpAny_pyIter_list hl hQ
noncomputable abbrev aj(h:O1)(k1:I1)(l1:H1):O1:=iN (BC k1 l1)
noncomputable abbrev cj(h:O1)(k1 k2:I1)(l1 l2:H1):O1:=(aj h k1 l1).y6 (BC k2 l2)
noncomputable abbrev dj(h:O1)(k1 k2:I1)(l1 l2:H1):O1:=(cj h k1 k2 l1 l2).y6 {O2:=.U0 "tuple",L3:=.V5 #[.J0 l8,.J0 (aj h k1 l1).SC.L9]}
noncomputable abbrev fj(h:O1)(k1 k2:I1)(l1 l2:H1):O1:=(dj h k1 k2 l1 l2).y6 {O2:=.U0 "tuple",L3:=.V5 #[.H0,.H0]}
noncomputable abbrev pY(h:O1)(k1 k2:I1)(l1 l2:H1):O1:=(fj h k1 k2 l1 l2).y6 {O2:=.U0 "zip",L3:=.R5 #[.H0,.N3 R0,.N3 R0,.J0 (cj h k1 k2 l1 l2).SC.L9,.J0 (dj h k1 k2 l1 l2).SC.L9]}
theorem mL0(k1 k2:I1)(l1 l2:H1)(xs ys:L4 K0):
  K_ (KA.«zip.__new__» ⟨[.U0 "zip",.J0 l1,.J0 l2],[]⟩) (λ _ R s=>x9 k1 W0 l1 xs/\x9 k2 W0 l2 ys/\
   R (.ok (.U1 (.J0 (fj W0 k1 k2 l1 l2).SC.L9))) {s with A3:=pY W0 k1 k2 l1 l2}):=
 .km λ K3 w A R s h=>by
  obtain⟨hp,g,d,tk,os⟩:=s;rcases h with⟨qU,KM,h⟩;have hsub:=sub_zip;have hL1:x9 k1 (D1.A3 ⟨hp,g,d,tk,os⟩) l1 xs:=qU;have hL2:x9 k2 (D1.A3 ⟨hp.y6 (BC k1 l1),g,d,tk,os⟩) l2 ys:=KM.y6 _
  wp_walk using QT hL1,QT hL2
  exact⟨_,O,h⟩
theorem D50{k1 k2:I1}{l1 l2:H1}{xs ys:L4 K0}{Q:K0->D1->Prop}(qU:x9 k1 W0 l1 xs)(KM:x9 k2 W0 l2 ys)
  (h:∀h',wF h' (P2+4) (P2+2) (P2+3) .H0->cC h' (P2+2) (.J0 P2) (.J0 (P2+1))->
   cC h' (P2+3) .H0 .H0->C3 P2=E0 (BC k1 l1)->C3 (P2+1)=E0 (BC k2 l2)->
   (∀c o,E3 c=E0 o->C3 c=E0 o)->Q (.J0 (P2+4)) {s with A3:=h'}):
  V0 (T4 K3 w) A (K2 (.U0 "zip") [.J0 l1,.J0 l2]) Q E s:=by
 refine PU0 F.called_zip (by decide) (F.typeCall_zip_2 _ _) (F.newCall_zip_2 _ _) (λ NF=>F.args_object_init_3 NF _ _) F.entry_zip_new
  (mL0 k1 k2 l1 l2 xs ys) ⟨qU,KM,?_⟩
 have z1:(aj W0 k1 l1).SC.L9=P2+1:=TD ..;have z2:(cj W0 k1 k2 l1 l2).SC.L9=P2+2:=by rw[TD,z1]
 have z3:(dj W0 k1 k2 l1 l2).SC.L9=P2+3:=by rw[TD,z2]
 have z4:(fj W0 k1 k2 l1 l2).SC.L9=P2+4:=by rw[TD,z3]
 have g5:(pY W0 k1 k2 l1 l2).W5 (fj W0 k1 k2 l1 l2).SC.L9=E0 _:=BA _ O;have g4:(pY W0 k1 k2 l1 l2).W5 (dj W0 k1 k2 l1 l2).SC.L9=E0 _:=S6 _ (BA _ O);have g3:(pY W0 k1 k2 l1 l2).W5 (cj W0 k1 k2 l1 l2).SC.L9=E0 _:=S6 _ (S6 _ (BA _ O));have g2:(pY W0 k1 k2 l1 l2).W5 (aj W0 k1 l1).SC.L9=E0 (BC k2 l2):=S6 _ (S6 _ (S6 _ (BA _ O)));have g1:(pY W0 k1 k2 l1 l2).W5 P2=E0 (BC k1 l1):=S6 _ (S6 _ (S6 _ (S6 _ (BA _ O))));show _/\_;rw[z2,z3,z4]at g5;rw[z1,z2]at g3;rw[z3]at g4;rw[z1]at g2;rw[z4];exact⟨⟨_,g5,O⟩,h _ g5 g3 g4 g1 g2 λ c o x=>
  S6 _ (S6 _ (S6 _ (S6 _ (S6 _ x))))⟩
theorem nL0{M:UB}{A:B6}{β:Type}{f:P0 (Code×Q3)->β}{Q:β->D1->Prop}{E:K0->D1->Prop}{s:D1}(h:∀b,Q b s):V0 M A stack (λ st s'=>V0 M A (J4 (f st)) Q E s') E s:=wpAny_stack_any λ _=>E2 (h _)
set_option tactic.hygienic true in
theorem oL0(k:I1)(l:H1)(xs:L4 K0):
  K_ (KA.«enumerate.__new__» ⟨[.U0 "enumerate",.J0 l],[]⟩) (λ _ R s=>x9 k W0 l xs/\
   R (.ok (.U1 (.J0 (F8 (BC k l)).SC.L9)))
    {s with A3:=(F8 (BC k l)).y6 {O2:=.U0 "enumerate",L3:=.R5 #[.H0,.N3 R0,.J0 P2,i5 0,.H0,.H0]}}):=
 .km λ K3 w A R s h=>by
  obtain⟨hp,g,d,tk,os⟩:=s;obtain⟨hl,h⟩:=h;have hsub:=sub_enumerate;have hL:x9 k (D1.A3 ⟨hp,g,d,tk,os⟩) l xs:=hl
  wp_walk using QT hL
  refine nL0 λ b=>?_;cases b
  ·wp_walk using QT hL
   exact⟨_,O,h⟩
  ·wp_walk using QT hL
   exact⟨_,O,h⟩
theorem E50{k:I1}{l:H1}{xs:L4 K0}{Q:K0->D1->Prop}(hl:x9 k W0 l xs)
  (h:∀h',WP h' (P2+1) P2 0 .H0->C3 P2=E0 (BC k l)->
   (∀b o,E3 b=E0 o->C3 b=E0 o)->Q (.J0 (P2+1)) {s with A3:=h'}):
  V0 (T4 K3 w) A (K2 (.U0 "enumerate") [.J0 l]) Q E s:=by
 refine PU0 F.called_enumerate (by decide) (F.typeCall_enumerate_1 _) (F.newCall_enumerate_1 _) (λ NF=>F.fS0 NF _) F.entry_enumerate_new
  (oL0 k l xs) ⟨hl,?_⟩
 have hz:(F8 (BC k l)).SC.L9=P2+1:=TD ..;show _/\_;rw[hz];have he:WP ((F8 (BC k l)).y6 {O2:=.U0 "enumerate",L3:=.R5 #[.H0,.N3 R0,.J0 P2,i5 0,.H0,.H0]}) (P2+1) P2 0 .H0:=by
  have:=BA (F8 (BC k l)) (o:={O2:=.U0 "enumerate",L3:=.R5 #[.H0,.N3 R0,.J0 P2,i5 0,.H0,.H0]}) O;rw[hz]at J2;exact J2
 exact⟨⟨_,he,O⟩,h _ he (S6 _ (BA _ O)) λ b o x=>S6 _ (S6 _ x)⟩
end
end
end
section
section
open PyProof.Rows
variable{B:Bs}{A:Around}{G G':Gh}{s s':Shared}{F:Addr->Prop}{FZ:Nat->Bool}
theorem pL0{L:y5}{nm x:C1}(h:v9 L nm x=I0):x=nm/\D7 L x=I0:=by
 unfold v9 at h;rw[N5,DU]at h;exact h
section
variable{g:Nat->Option PV}{cl:Nat->Nat}{n:Nat}{ih:B5}{T:Tab}{cenv:Env}{L:Kinds}{env:PV}{k:Nat}
theorem Bd(BF:R7 B g)(X:F5 B n A N0 L O0 G s){x:C1}{v:K0}(RA:QF x=H0/\RJ x=E0 v)(hg:D7 L x=I0)(hd:(x==("__debug__":C1))=R0){p:Q3}{Q E:K0->D1->Prop}(h:Q v s):
  V0 R2 A (M5 (.Z3 x p) N0) Q E s:=by
 exact ZV BF II VB RA hg hd h
theorem xM{M:UB}{T:U6}:JT M s (.U0 T):=λ A Q E h=>E2 (h _ (.L2 (.S2 O)))
theorem mV(BF:R7 B g)(H:x7 B g cl n ih)(X:F5 B n A N0 L O0 G s){x:C1}{v:K0}(RA:QF x=H0/\RJ x=E0 v)(hg:D7 L x=I0)(hd:(x==("__debug__":C1))=R0)(hv:∀s,JT R2 s v)
  {a:v0}(ha:P8 a=I0){p q:Q3}{γ:Type}{f:PV->M γ}{P:γ->K1->Prop}{Q:C0->K1->Prop}(M0:(F1 (P5 (cE g cl k L a) O0) f R1).P1 P Q){K:K0->D1->Prop}
  (hK:∀G1 s1 y u,Z2 B N2 G s G1 s1->J1 B A G1 s1->F3 G1 pE y u->(f y mF).P1 P Q->V0 R2 A (W7 v [u]) K (Px B N2 A G s Q) s1):
  V0 R2 A (M5 (.B7 (.Z3 x p) [a] [] q) N0) K (Px B N2 A G s Q) s:=by
 refine mM (Bd BF X RA hg hd ?_);have D4:[a].ZA P8=I0:=by simp[ha]
 refine wI (by rw[BL D4];rfl) (zI D4 ?_);rw[vI ha];refine uD ((H X).q8 M0 λ G1 s1 y u D2 g1 ru A5=>?_);exact GJ ⟨hv _,hK G1 s1 y u D2 g1 ru A5⟩
theorem F50(BF:R7 B g)(H:x7 B g cl n ih)(X:F5 B n A N0 L O0 G s){x:C1}{v:K0}(RA:QF x=H0/\RJ x=E0 v)(hg:D7 L x=I0)(hd:(x==("__debug__":C1))=R0)(hv:∀s,JT R2 s v)
  {a b:v0}(ha:P8 a=I0)(hb:P8 b=I0){p q:Q3}{γ:Type}{f:PV->PV->M γ}{P:γ->K1->Prop}{Q:C0->K1->Prop}(M0:(F1 (P5 (cE g cl k L a) O0) (λ y=>F1 (P5 (cE g cl k L b) O0) (f y)) R1).P1 P Q){K:K0->D1->Prop}
  (hK:∀G1 s1 y u y2 u2,Z2 B N2 G s G1 s1->J1 B A G1 s1->F3 G1 pE y u->F3 G1 pE y2 u2->(f y y2 mF).P1 P Q->V0 R2 A (W7 v [u,u2]) K (Px B N2 A G s Q) s1):
  V0 R2 A (M5 (.B7 (.Z3 x p) [a,b] [] q) N0) K (Px B N2 A G s Q) s:=by
 refine mM (Bd BF X RA hg hd ?_);have D4:[a,b].ZA P8=I0:=by simp[ha,hb]
 refine wI (by rw[BL D4];rfl) (zI D4 ?_);rw[vI ha,vI hb];refine uD ((H X).q8 M0 λ G1 s1 y u D2 g1 ru A5=>?_);refine uD ((H (GC D2 g1)).IE D2 A5 λ G2 s2 y2 u2 I2 V9 g2 lV uA=>?_);exact GJ ⟨hv _,hK G2 s2 y u y2 u2 I2 g2 (NK V9) lV uA⟩
theorem gj(gd:J1 B A G s){y:PV}{v:K0}(r:F3 G W0 y v){γ:Type}{f:It->M γ}{P:γ->K1->Prop}{X:C0->K1->Prop}(M0:(F1 (aJ y) f R1).P1 P X):
  ∃l xs k a,v=.J0 l/\x9 k W0 l xs/\(f a R1).P1 P X/\(∀av h' I,EL G W0 av h'->C3 I=E0 (BC k l)->sC (EO av) h' a I)/\((∃q,a=.V5 q)\/∃i,a=.zF i 0):=by
 cases y using P3 with
 |Q0 l=>
  obtain⟨a,vs,n,O,hz,e,rl⟩:=r;refine⟨a,JB,R0,.V5 l,O,⟨_,e,O,_,O⟩,M0,λ av h' I hk hI=>?_,.S2 ⟨_,O⟩⟩;obtain⟨h1,h2⟩:=hk _ _ _ hz e;exact⟨a,0,vs,n,⟨_,hI,O,O⟩,h2,h1,A50 hk rl⟩
 |J0 i=>
  obtain⟨hi,O⟩:=r;have M0:(F1 (λ s=>((match K8 i with|.M1 _=>W1 (nW i 0)|_=>F2 61):M It) s) f R1).P1 P X:=M0;have M0:(F1 ((match O3 i with|.M1 _=>W1 (nW i 0)|_=>F2 61):M It) f R1).P1 P X:=M0;generalize ex:O3 i=zo at M0;cases zo using EA with
  |M1 l=>
   obtain⟨vs,n,e,rl⟩:=sM gd hi ex;exact⟨Y2 i,JB,I0,.zF i 0,O,M9 e,M0,λ av h' I hk hI=>⟨hi,_,hI,O,O⟩,.L2 ⟨_,O⟩⟩
  |_=>exact B4
 |_=>exact B4
def qL0(B:Bs)(A:B6)(G:Gh)(s:D1){γ:Type}(f:It->M γ)(P:γ->K1->Prop)(X:C0->K1->Prop)(K:K0->D1->Prop):Prop:=
 ∀G1 s1 l h' tk a v W,Z2 B N2 G s G1 s1->J1 B A G1 s1->(∀b o,FJ b=E0 o->C3 b=E0 o)->(∀b∈W,FJ b=H0)->(∀b∈l,b∈W)->
  J1 B A (jN (l++iD)) {s1 with A3:=h',y3:=tk}->wG (jN (l++iD)) h' a v W->(∀b∈W,s8 B (jN (l++iD)) h' b)->(f a mF).P1 P X->K v {s1 with A3:=h',y3:=tk}
theorem Cd{l:P0 H1}{h':O1}(k:∀b o,E3 b=E0 o->C3 b=E0 o)(hl:∀b∈l,E3 b=H0):EL G W0 (l++E5) h':=λ b vs n hb e=>⟨λ q=>by
  rcases vi q with q|q
  ·rw[hl b q]at e;contradiction
  ·exact hb q,k _ _ e⟩
theorem Av{e:v0}{R9:o6}{γ:Type}{f:It->M γ}{P:γ->K1->Prop}{X:C0->K1->Prop}{σ:K1}{f':v0->C}(M0:(F1 (FQ ih O0 (cI f' L e)) f σ).P1 P X):∀x,foldedSetIterable e R9 x=J4 x:=by
 intro x;cases e using Z9<;>first|rfl|exact B4
theorem Dd{a:v0}(h:vB [a]=I0):P8 a=I0:=by simpa using(fY h).2
theorem jj{a b:v0}(h:vB [a,b]=I0):P8 a=I0/\P8 b=I0:=by simpa using(fY h).2
theorem nV{x:H1}{P:H1->Prop}(h:P x):∀b∈[x],P b:=λ b hb=>by rw[lT hb];exact h
theorem xm{h:O1}{b:H1}{l:P0 H1}(x:s8 B G h b):s8 B (EO l) h b:=⟨s_,x.eA,wP,x.e9⟩
theorem pV{h:O1}{b:H1}(hb:l8<=b):B3 b=H0:=NE hb
theorem G50(BF:R7 B g)(H:x7 B g cl n ih)(X:F5 B n A N0 L O0 G s){e:v0}{γ:Type}{f:It->M γ}{P:γ->K1->Prop}{Q:C0->K1->Prop}(M0:(F1 (FQ ih O0 (cI (cE g cl k L) L e)) f R1).P1 P Q)
  {K:K0->D1->Prop}(hK:qL0 B A G s f P Q K):V0 R2 A (M5 e N0) (λ x s1=>V0 R2 A (C_ x) K (Px B N2 A G s Q) s1) (Px B N2 A G s Q) s:=by
 have sh:=s10 (cE g cl k L) L e;generalize cI (cE g cl k L) L e=c at sh M0;cases sh with
 |r8 a b p q hg hf=>
  have M0:(F1 (P5 (cE g cl k L a) O0) (λ y=>F1 (P5 (cE g cl k L b) O0) λ y2=>F1 (aJ y) λ x=>F1 (aJ y2) λ z=>f (.r8 x z)) R1).P1 P Q:=
   BK (AB M0) λ _ _ h=>BK (AB h) λ _ _ h=>BK (AB h) λ _ _ h=>AB h
  refine F50 BF H X (tN "zip" (.U0 "zip") (IL (i:=7) O)) hg (by decide) (λ _=>xM) (jj hf).1 (jj hf).2 M0 λ G1 s1 y u y2 u2 D2 g1 ru lV A5=>?_;obtain⟨l1,xs,k1,a1,O,kH,uA,bg,Bv⟩:=gj g1 ru A5;obtain⟨l2,ys,k2,a2,O,eX,Cv,mk2,sh2⟩:=gj g1 lV uA;refine D50 kH eX λ h' hz sB mA LM fX hk=>?_;refine wS0 hz ?_;have av:=Cd (G:=G1) (l:=[B9+3]) hk (nV (pV (MG _ 3)));have fD:∀b∈[B9+4,B9+3,B9,B9+1],B9<=b/\∃o,C3 b=E0 o:=λ b hb=>by
   simp only[qD,sD,ZE]at hb;rcases hb with O|O|O|O
   ·exact⟨MG _ _,_,hz⟩
   ·exact⟨MG _ _,_,mA⟩
   ·exact⟨A8 _,_,LM⟩
   ·exact⟨MG _ _,_,fX⟩
  refine hK G1 s1 [B9+3] h' jA (.r8 a1 a2) _ [B9+4,B9+3,B9,B9+1] D2 g1 hk (λ b hb=>pV (fD b hb).1) (λ b hb=>by simp at hb;simp[hb]) (Ly hk λ b hb=>fD b (by simp at hb;simp[hb]))
   ⟨_,B9+2,_,_,_,_,_,O,O,?_,?_,?_,hz,sB,mA,bg _ h' _ av LM,mk2 _ h' _ av fX⟩ (λ b hb=>xm (FX (G:=G1) g1 (fD b hb).1 (fD b hb).2)) Cv
  ·show B9+3∈[B9+3]++iD;simp
  ·intro q;rcases vi q with q|q
   ·have:B9+2=B9+3:=by simpa using q
    exact(aT0 _ (BB0 ‹_›))
   ·obtain⟨_,o,eo⟩:=f00 _ q;rw[pV (MG _ 2)]at eo;contradiction
  ·exact WC (rD _)
 |JE a p q hg hf=>
  have M0:(F1 (P5 (cE g cl k L a) O0) (λ y=>F1 (aJ y) λ x=>f (.JE 0 x)) R1).P1 P Q:=BK (AB M0) λ _ _ h=>AB h;refine mV BF H X (tN "enumerate" (.U0 "enumerate") (IL (i:=8) O)) hg (by decide) (λ _=>xM) (Dd hf) M0 λ G1 s1 y u D2 g1 ru A5=>?_;obtain⟨l1,xs,k1,a1,O,kH,uA,bg,Bv⟩:=gj g1 ru A5;refine E50 kH λ h' he LM hk=>?_;have hT:({s1 with A3:=h'}:D1).XV (.J0 (B9+1)) "enumerate":=⟨_,he,O⟩;have av:=Cd (G:=G1) (l:=[]) hk (λ b hb=>by contradiction);have fD:∀b∈[B9+1,B9],B9<=b/\∃o,C3 b=E0 o:=λ b hb=>by
   simp only[qD,sD,ZE]at hb;rcases hb with O|O
   ·exact⟨MG _ _,_,he⟩
   ·exact⟨A8 _,_,LM⟩
  refine ls hT la (TC la hT K80 ?_ (J80 _));show V0 _ _ (U1 (.J0 (B9+1))) _ _ _;refine E2 ⟨_,O,"enumerate",_,hT,B80,?_⟩;exact hK G1 s1 [] h' jA (.JE 0 a1) _ [B9+1,B9] D2 g1 hk (λ b hb=>pV (fD b hb).1) (λ b hb=>by contradiction) (Ly hk λ b hb=>by contradiction)
   ⟨_,_,_,O,O,he,bg _ h' _ av LM⟩ (λ b hb=>xm (FX (G:=G1) g1 (fD b hb).1 (fD b hb).2)) uA
 |Ym a p q hg hf=>
  have M0:(F1 (P5 (cE g cl k L a) O0) (λ v=>F1 ((match v with|.j0 (.N4 n)=>bif O9 n 60 then W1 (.dG 0 n)else F2 65|_=>F2 65):M It) f) R1).P1 P Q:=AB M0;refine mV BF H X (tN "range" (.U0 "range") (IL (i:=9) O)) hg (by decide) (λ _=>xM) (Dd hf) M0 λ G1 s1 y u D2 g1 ru A5=>?_;cases y using P3 with
  |j0 i=>
   cases i using SL with
   |N4 m=>
    change(F1 (bif O9 m 60 then W1 (YU 0 m)else F2 65) f mF).P1 P Q at A5;cases hm:O9 m 60 with
    |R0=>rw[hm]at A5;exact SP
    |I0=>
     rw[hm]at A5;have hm:=i6 hm;obtain⟨t,O⟩:=ru;refine E90 ?_;refine gS0 (e90 ..) (q90 (by decide) (by decide) (by have:(0:A2)<=FA m:=JL m;exact JL _) (by have:(FA m:A2)<=60:=y80 hm;omega)) ?_;have Y7:n80 0 (FA m) 1=(m:A2):=by
      rw[A90]
      split
      ·simp
      ·rename_i q;have:(FA m:A2)=m:=O;exact ω30 ‹_›
     rw[Y7];have hk:∀b o,FJ b=E0 o->((QL {O2:=.U0 "range",L3:=.R5 #[.j0 0 jA,.j0 (FA m) t,.j0 1 (jA+1)]}).y6 {O2:=.U0 "range_iterator",L3:=.R5 #[i5 0,i5 (m:A2),i5 1]}).W5 b=E0 o:=λ b o e=>rA _ _ _ _ (rA _ _ _ _ e);have C7:Tl ((QL {O2:=.U0 "range",L3:=.R5 #[.j0 0 jA,.j0 (FA m) t,.j0 1 (jA+1)]}).y6 {O2:=.U0 "range_iterator",L3:=.R5 #[i5 0,i5 (m:A2),i5 1]}) (B9+1) ((0:C0):A2) ((m:A2)-((0:C0):A2)) 1:=by
      have:=BA (QL {O2:=.U0 "range",L3:=.R5 #[.j0 0 jA,.j0 (FA m) t,.j0 1 (jA+1)]}) (o:={O2:=.U0 "range_iterator",L3:=.R5 #[i5 0,i5 (m:A2),i5 1]}) O;rw[TD]at J2;simpa using J2
     have sz:(QL {O2:=.U0 "range",L3:=.R5 #[.j0 0 jA,.j0 (FA m) t,.j0 1 (jA+1)]}).SC.L9=B9+1:=TD ..;have:=hK G1 s1 [] _ (jA+1+1) (.dG 0 m) (.J0 (B9+1)) [B9+1] D2 g1 hk (nV (pV (MG _ _))) (λ b hb=>by contradiction) (Ly hk λ b hb=>by contradiction)
      ⟨_,O,O,C7⟩ (nV (xm (FX (G:=G1) g1 (MG _ _) ⟨_,C7⟩))) A5
     rw[<-sz]at J2;exact J2
   |_=>exact SP
  |_=>exact SP
 |V5=>
  have M0:(F1 (P5 (cE g cl k L e) O0) (λ y=>F1 (aJ y) f) R1).P1 P Q:=AB M0;refine(H X).q8 M0 λ G1 s1 y u D2 g1 ru A5=>?_;obtain⟨l1,xs,k1,a1,O,kH,uA,bg,Bv⟩:=gj g1 ru A5;refine QT kH ?_;have hk:∀b o,FJ b=E0 o->(QL (BC k1 l1)).W5 b=E0 o:=λ b o e=>rA _ _ _ _ e;have LM:(QL (BC k1 l1)).W5 B9=E0 (BC k1 l1):=BA _ O;have av:=Cd (G:=G1) (l:=[]) hk (λ b hb=>by contradiction);refine hK G1 s1 [] _ jA a1 _ [B9] D2 g1 hk (nV (pV (A8 _))) (λ b hb=>by contradiction) (Ly hk λ b hb=>by contradiction) ?_
   (nV (xm (FX (G:=G1) g1 (A8 _) ⟨_,LM⟩))) uA
  have sm:=bg _ _ _ av LM;rcases Bv with⟨q,O⟩|⟨i,O⟩
  ·exact⟨_,O,O,sm⟩
  ·exact⟨_,O,O,sm⟩
 |M2=>
  exact B4
end
end
end
section
section
open PyProof.Rows
variable{B:Bs}{A:Around}{G G':Gh}{s s':Shared}{F:Addr->Prop}{FZ:Nat->Bool}
section
variable{prog:Program}{w:World}{E:Value->Shared->Prop}
theorem rL0{it R4:H1}{G5:L4 K0}:∀(n k:C0)(s:D1)(Q:P0 K0->D1->Prop),A7 W0 it R4 k G5->k+n<=LR->
  (∀h',A7 h' it R4 (k+n) G5->TA it W0 h'->Q ((Kj k).vL n) {s with A3:=h'})->V0 (T4 K3 w) A (YH (.J0 it) n) Q E s:=by
 intro zq;induction zq with
 |i9=>
  intro k s Q C7 _ hQ;show V0 _ _ (J4 []) Q E s;exact E2 (by simpa using hQ W0 C7 (TA.L5 ..))
 |c9 n ih=>
  intro k s Q C7 iH hQ;have VF:k<LR:=by exact ω105 ‹_›
  show V0 _ _ (sF (.J0 it)>>=_) Q E s;refine S0 (uu C7 (x:=G5[k]) (by simp[VF]) λ j5 NT wD=>?_);refine S0 (z7 (ih (k+1) _ _ NT (by exact ω47 ‹_›) λ r7 sL0 mB=>E2 ?_));have hd:Kj k=G5[k]::Kj (k+1):=by simp[P0.drop_eq_getElem_cons,VF]
  have:=hQ r7 (by rw[show k+(n+1)=k+1+n by exact(MZ _ _).Y3];exact sL0) (wD.V2 mB);rw[hd,KT0]at J2;exact J2
theorem x9.lt{b:I1}{h:O1}{l:H1}{xs:L4 K0}(x:x9 b h l xs):l<l8:=by
 cases b using n7
 ·obtain⟨o,e,_⟩:=x;exact o9 e
 ·obtain⟨o,e,_⟩:=x;exact o9 e
theorem x9.R4{b:I1}{h:O1}{l I:H1}{xs:L4 K0}(x:x9 b h l xs)(hI:B3 I=E0 (BC b l))(Y6:l≠I):A7 h I l 0 xs:=by
 cases b using n7
 ·exact⟨.L2 ⟨⟨_,hI,O,O⟩,x⟩,Y6⟩
 ·exact⟨.S2 ⟨⟨_,hI,O,O⟩,x⟩,Y6⟩
theorem H50{b:I1}{l:H1}{xs:L4 K0}{Q:P0 K0->D1->Prop}(hh:C9=H0)(hv:x9 b W0 l xs)
  (h:∀h',(∀b o,E3 b=E0 o->C3 b=E0 o)->Q LP {s with A3:=h'}):V0 (T4 K3 w) A (P90 (.J0 l) PK H0) Q E s:=by
 have VF:l≠P2:=WC hv.lt;refine S0 ?_;have it1:V0 (T4 K3 w) A (xS0 (.J0 l)) (λ r s'=>r=R0/\s'=s) E s:=by
  unfold xS0;cases b using n7
  ·exact S0 (Fk (Cz.wC hv) slot_tuple_iter.X9 (E2 ⟨O,O⟩))
  ·have hv:W0.Yl l xs:=hv;exact S0 (Fk hv.wC slot_list_iter.X9 (E2 ⟨O,O⟩))
 refine U3 it1 (λ r s' hr=>?_) λ _ _ e=>e;obtain⟨O,O⟩:=hr;refine S0 (z7 (QT hv ?_));have hI:(s'.so (BC b l)).W5 s'.og=E0 (BC b l):=BA _ O;refine S0 (z7 (rL0 PK 0 _ _ ((hv.y6 _).R4 hI VF) (by exact FP (TW _)) λ j5 NT wD=>?_));have M0:P0.vL PK (P0.SG 0 LP)=LP:=by
  rw[Q90];exact P0.take_of_length_le (by simp)
 rw[M0];rw[u3 (by simp)];refine S0 (z7 (wu hh NT (by simp) λ r7 rJ _=>?_));refine PI LG ?_;exact E2 (h r7 λ b o e=>rJ b o (WC (o9 e)) (uC b o (WC (o9 e)) (rA _ _ _ _ e)))
theorem tL0{b:I1}{l:H1}{xs:L4 K0}{Jm:P0 (I1×(K0->X7 S7))}{Q:S7->D1->Prop}(hh:C9=H0)(hv:x9 b W0 l xs)(hn:Jm.L7=PK)(hstar:Jm.ES0 (·.1)=H0)
  (h:∀h',(∀b o,E3 b=E0 o->C3 b=E0 o)->V0 (T4 K3 w) A (ac (Jm.Y4 (·.2)) LP) Q E {s with A3:=h'}):
  V0 (T4 K3 w) A (unpack (.J0 l) Jm) Q E s:=by
 unfold unpack;rw[hn,hstar];exact S0 (z7 (H50 hh hv h))
theorem Dv{WI:v0}{it:K0}{O4:P0 U5}{O0:o6}{R:tL->D1->Prop}
  (Ag:V0 (T4 K3 w) A (sF it) (λ r M6=>match r with
   |H0=>R (.ok .W4) M6
   |E0 v=>V0 (T4 K3 w) A (db WI it v) (λ _ Gf=>
     V0 (T4 K3 w) A (AK WI O0 v) (λ _ q9=>V0 (T4 K3 w) A (jC O4 O0) (λ f JD=>match f with
      |.W4|.YB=>FC (T4 K3 w) A (.Ue WI it O4 [] O0) R JD
      |.ZB=>R (.ok .W4) JD
      |.U1 v=>R (.ok (.U1 v)) JD) (pL (T4 K3 w) A O0 λ e s'=>R (.ID e) s') q9) (pL (T4 K3 w) A O0 λ e s'=>R (.ID e) s') Gf) (pL (T4 K3 w) A O0 λ e s'=>R (.ID e) s') M6) (pL (T4 K3 w) A O0 λ e s'=>R (.ID e) s') s):
  FC (T4 K3 w) A (.Ue WI it O4 [] O0) R s:=by
 refine UZ ?_;show V0 _ A ((forTurn WI it O4 [] O0).UA0 (λ x=>do ll x O0;q80 x)) _ _ s;refine R90 ?_;refine S0 (yA (S0 (aZ (U3 Ag (λ r M6 j5=>?_) λ _ _ h'=>yA h'))));cases r using Y9 with
 |H0=>exact E2 ⟨O,codeAny_block (DP j5)⟩
 |E0 v=>
  refine S0 (U3 j5 (λ _ Gf Lz=>?_) λ _ _ h'=>h');refine S0 (U3 Lz (λ _ q9 r7=>S0 (U3 r7 (λ f JD c8=>?_) λ _ _ h'=>h')) λ _ _ h'=>h');cases f using FH with
  |W4=>exact E2 ⟨O,c8⟩
  |YB=>exact E2 ⟨O,c8⟩
  |ZB=>exact E2 c8
  |U1 v=>exact E2 c8
theorem bT0{LC:v0}{O4:P0 U5}{O0:o6}{R:tL->D1->Prop}
  (Ag:V0 (T4 K3 w) A (SH LC O0 (M5 LC O0)) (λ b M6=>if b then V0 (T4 K3 w) A (jC O4 O0) (λ f JD=>match f with
      |.W4|.YB=>FC (T4 K3 w) A (.fx LC O4 [] O0) R JD
      |.ZB=>R (.ok .W4) JD
      |.U1 v=>R (.ok (.U1 v)) JD) (pL (T4 K3 w) A O0 λ e s'=>R (.ID e) s') M6 else R (.ok .W4) M6) (pL (T4 K3 w) A O0 λ e s'=>R (.ID e) s') s):
  FC (T4 K3 w) A (.fx LC O4 [] O0) R s:=by
 refine UZ ?_;show V0 _ A ((whileTurn LC O4 [] O0).UA0 (λ x=>do ll x O0;q80 x)) _ _ s;refine R90 ?_;refine S0 (U3 Ag (λ b M6 j5=>?_) λ _ _ h'=>h');cases b using n7 with
 |I0=>
  refine S0 (U3 j5 (λ f JD c8=>?_) λ _ _ h'=>h');cases f using FH with
  |W4=>exact E2 ⟨O,c8⟩
  |YB=>exact E2 ⟨O,c8⟩
  |ZB=>exact E2 c8
  |U1 v=>exact E2 c8
 |R0=>exact S0 (DP (E2 j5))
theorem uL0{X5 WI iI:v0}{z6:P0 v0}{Z8:BB}{C2:Q3}{it M3:K0}{O0:o6}{R:tL->D1->Prop}
  (Ag:V0 (T4 K3 w) A (sF it) (λ r M6=>match r with
   |H0=>R (.ok .W4) M6
   |E0 v=>V0 (T4 K3 w) A (db WI it v) (λ _ Gf=>z6=[]/\V0 (T4 K3 w) A (AK WI O0 v) (λ _ q9=>V0 (T4 K3 w) A (M5 X5 O0) (λ x JD=>
     V0 (T4 K3 w) A (K2 (.Z4 "list.append") [M3,x]) (λ _ s₄=>FC (T4 K3 w) A (.Bm (.NB X5 [⟨WI,iI,z6,0⟩] Z8 C2) 0 it M3 O0) R s₄) (pL (T4 K3 w) A O0 λ e s'=>R (.ID e) s') JD)
     (pL (T4 K3 w) A O0 λ e s'=>R (.ID e) s') q9) (pL (T4 K3 w) A O0 λ e s'=>R (.ID e) s') Gf) (pL (T4 K3 w) A O0 λ e s'=>R (.ID e) s') M6) (pL (T4 K3 w) A O0 λ e s'=>R (.ID e) s') s):
  FC (T4 K3 w) A (.Bm (.NB X5 [⟨WI,iI,z6,0⟩] Z8 C2) 0 it M3 O0) R s:=by
 refine UZ ?_;show V0 _ A ((sV0 (.NB X5 [⟨WI,iI,z6,0⟩] Z8 C2) 0 it M3 O0).UA0 (λ x=>do ll x O0;q80 x)) _ _ s;refine R90 ?_;obtain⟨I4,ZU,vL0⟩:∃I4:K0->X7 gH,(sV0 (.NB X5 [⟨WI,iI,z6,0⟩] Z8 C2) 0 it M3 O0=(QI iI.C2>>=λ _=>sF it>>=λ r=>match r with|H0=>J4 (.KD .W4)|E0 v=>db WI it v>>=λ _=>I4 v))/\(z6=[]->∀v,I4 v=(AK WI O0 v>>=λ _=>(M5 X5 O0>>=λ x=>K2 (.Z4 "list.append") [M3,x]>>=λ _=>J4 ())>>=λ _=>WK (.Bm (.NB X5 [⟨WI,iI,z6,0⟩] Z8 C2) 0 it M3 O0))):=
  ⟨_,O,λ e v=>by subst e;rfl⟩
 rw[ZU];refine S0 (yA (S0 (U3 Ag (λ r M6 j5=>?_) λ _ _ h'=>h')));cases r using Y9 with
 |H0=>exact E2 j5
 |E0 v=>
  refine S0 (U3 j5 (λ _ Gf zz=>vN zz λ he Lz=>?_) λ _ _ h'=>h');rw[vL0 he];exact S0 (U3 Lz (λ _ q9 r7=>S0 (S0 (U3 r7 (λ x JD c8=>S0 (U3 c8
   (λ _ s₄ zL=>E2 (E2 ⟨O,zL⟩)) λ _ _ h'=>h')) λ _ _ h'=>h'))) λ _ _ h'=>h')
end
end
end
section
section
open PyProof.Rows
variable{B:Bs}{A:Around}{G G':Gh}{s s':Shared}{F:Addr->Prop}{FZ:Nat->Bool}
variable{g:Nat->Option PV}{cl:Nat->Nat}{n:Nat}{ih:B5}{T:Tab}{cenv:Env}{L:Kinds}{env:PV}{k:Nat}
noncomputable abbrev yE(B:Bs)(N0:o6)(D:C1->Prop):Gh->O1->PV->S7->Prop:=λ G h e _=>T5 B N0 D e G h
theorem I50{D:C1->Prop}{f:v0->C}(ES:j9 N0 L)(gd:J1 B A G s)(ER:T5 B N0 D O0 G W0){x:C1}{C2:Q3}{p:PV}{v:K0}(r:F3 G W0 p v):
  U4 B (yE B N0 (λ y=>D y/\y≠x)) (C5 N0 L) A (XC FZ T ih (cT L f (.Z3 x C2)) p O0) (AK (.Z3 x C2) N0 v) G s:=by
 intro P X M0;change(XC FZ T ih (bif w4 x&&x6 L x then .F0 (vc x)else .M2) p O0 R1).P1 P X at M0;cases h:w4 x&&x6 L x with
 |R0=>rw[h]at M0;exact B4
 |I0=>
  rw[h]at M0;simp only[N5]at h;have M0:P (z5 (vc x) p O0) R1:=M0;exact f80 (aV ES gd ER h.1 h.2 r (λ b q=>q) λ s' st g' er=> .at (R:=yE B N0 (λ y=>D y/\y≠x)) (a:=z5 (vc x) p O0) (b:=()) st g' er M0)
theorem wL0{ts:P0 v0}{j:C0}{C2:Q3}:YF (.P9 ts j C2)=UA U7:=O
inductive UT(L:y5):P0 v0->PV->PV->PV->Prop
 |B0 O0:UT L [] .B0 O0 O0
 |A0 x C2 ts p q O0 e(h1:w4 x=I0)(h2:x6 L x=I0)(r:UT L ts q (z5 (vc x) p O0) e):UT L (.Z3 x C2::ts) (.A0 p q) O0 e
section
variable{f:Expr->C}{c r:C}{l:PV}{σ:K1}{P:PV->K1->Prop}{X:Nat->K1->Prop}{ts:List Expr}{e:PV}
theorem xL0(h:(c_ (.A0 c r) l O0 σ).P1 P X):∃p q,l=.A0 p q:=by cases l using P3<;>first|exact⟨_,_,O⟩|exact V4
theorem yL0(h:(c_ .B0 l O0 σ).P1 P X):l=.B0:=by cases l using P3<;>first|rfl|exact V4
theorem Fv:∀{ts:P0 v0}{l O0:PV},(c_ (Q8 (zU L f) ts) l O0 σ).P1 P X->∃e,UT L ts l O0 e/\P e σ/\∀(P':PV->K1->Prop)(X':C0->K1->Prop),P' e σ->(c_ (Q8 (zU L f) ts) l O0 σ).P1 P' X':=by
 intro ts;induction ts with
 |B0=>
  intro l O0 h;obtain O:=yL0 h;exact⟨O0,.B0 _,h,λ _ _ h=>h⟩
 |A0 t ts ih=>
  intro l O0 M0;cases hs:P8 t with
  |R0=>rw[Jj hs]at M0;exact B4
  |I0=>
   rw[Ij hs]at M0 ⊢;obtain⟨p,q,O⟩:=xL0 M0;have sh:=CC0 L f t;generalize zU L f t=c at sh M0;cases sh using Cb.W9 with
   |M2=>exact B4
   |F0 x C2 h1 h2=>
    obtain⟨e,a,hp,hr⟩:=ih (l:=q) (O0:=z5 (vc x) p O0) M0;exact⟨e,.A0 _ _ _ _ _ _ _ h1 h2 a,hp,hr⟩
theorem UT.Y5(a:UT L ts l O0 e):∀{G:Gh}{h:O1}{vs:P0 K0},A4 G h l vs->UN=Q7/\ts.ZA P8=I0:=by
 induction a with
 |B0=>intro G h vs r;have r:vs=[]:=r;subst r;exact⟨O,O⟩
 |A0 x C2 ts p q O0 e h1 h2 _ ih=>
  intro G h vs ⟨v,nC,e,_,rq⟩;subst e;exact⟨G6 HH (ih rq).1,(ih rq).2⟩
theorem zL0(ES:j9 N0 L)(a:UT L ts l O0 e):∀{D:C1->Prop}{vs:P0 K0}{s:D1},J1 B A G s->T5 B N0 D O0 G W0->A4 G W0 l vs->
  V0 R2 A (ac ((EU ts N0).Y4 (·.2)) vs) (λ _ s'=>Z2 B (C5 N0 L) G s G s'/\J1 B A G s'/\T5 B N0 (λ y=>D y/\y∉UA U7) e G T6) (λ _ _=>I6) s:=by
 induction a with
 |B0=>
  intro D vs s gd ER r;have r:vs=[]:=r;subst r;exact E2 ⟨.L5 ..,gd,ER.Au λ y h=>⟨h,sD⟩⟩
 |A0 x C2 ts p q O0 e h1 h2 a ih=>
  intro D vs s gd ER ⟨v,nC,ev,rp,rq⟩;subst ev;show V0 R2 A (QH nC (AK (.Z3 x C2) N0 v)>>=λ _=>ac ((EU ts N0).Y4 (·.2)) nC) _ _ s;refine S0 (z7 (f80 (aV ES gd ER h1 h2 rp (λ b q=>q) λ s' st g' er=>?_)));refine U3 (ih g' er (A4.J6 rq st)) (λ _ N7 zz=>Ln zz λ I2 g2 Q6=>⟨WN I2,g2,Q6.Au λ y hy=>⟨hy.1.1,λ q=>?_⟩⟩) λ _ _ h=>h;exact(dA q).HB hy.1.2 hy.2
theorem Gv{ts:C}{p:PV}(h:(XC FZ T ih (.Q0 ts) p O0 σ).P1 P X):∃l,(p=.Q0 l\/∃i,p=.J0 i/\AA i=.M1 l)/\(c_ ts l O0 σ).P1 P X:=by
 cases p using P3 with
 |Q0 l=>exact⟨l,.S2 O,h⟩
 |J0 i=>
  have h:(((match AA i with|.M1 l=>c_ ts l O0|_=>F2 74):M PV) σ).P1 P X:=h;cases ex:AA i<;>rw[ex]at h<;>first|exact⟨_,.L2 ⟨i,O,ex⟩,h⟩|exact V4
 |_=>exact V4
theorem J50{G:Gh}{s:D1}(gd:J1 B A G s){l p:PV}{v:K0}(r:F3 G W0 p v)(h:p=.Q0 l\/∃i,p=.J0 i/\O3 i=.M1 l):∃b a vs,v=.J0 a/\x9 b W0 a (P0.N8 vs)/\A4 G W0 l vs:=by
 rcases h with O|⟨i,O,ex⟩
 ·obtain⟨a,vs,n,O,hz,e,rl⟩:=r;exact⟨R0,a,vs,O,⟨_,e,O,_,O⟩,rl⟩
 ·obtain⟨hi,O⟩:=r;obtain⟨vs,n,e,rl⟩:=sM gd hi ex;exact⟨I0,_,vs,O,M9 e,rl⟩
end
theorem AM0{ts:P0 v0}(h:ts.ZA P8=I0):(EU ts N0).L7=UN/\(EU ts N0).ES0 (·.1)=H0:=by
 induction ts with
 |B0=>exact⟨O,O⟩
 |A0 t r ih=>
  simp only[Hc,N5]at h;have e:EU (t::r) N0=(R0,AK t N0)::EU r N0:=by
   have:=h.1;cases t using Z9<;>first|rfl|contradiction
  obtain⟨h1,h2⟩:=ih h.2;rw[e];exact⟨G6 HH h1,by simp[P0.findIdx?_cons,h2]⟩
theorem F90{D:C1->Prop}{f:v0->C}(hh:C9=H0)(ES:j9 N0 L)(gd:J1 B A G s)(ER:T5 B N0 D O0 G W0){ts:P0 v0}{j:C0}{C2:Q3}{p:PV}{v:K0}(r:F3 G W0 p v):
  U4 B (yE B N0 (λ y=>D y/\y∉YF (.P9 ts j C2))) (C5 N0 L) A (XC FZ T ih (cT L f (.P9 ts j C2)) p O0) (AK (.P9 ts j C2) N0 v) G s:=by
 intro P X M0;symm;obtain⟨pl,hp,M0⟩:=Gv M0;obtain⟨b,l,vs,O,Hv,rl⟩:=J50 gd r hp;obtain⟨e,a,hP,_⟩:=Fv M0;obtain⟨h1,h2⟩:=a.Y5 rl;obtain⟨e1,e2⟩:=AM0 (N0:=N0) h2;ext;refine S0 (yA (tL0 hh Hv (by rw[e1,h1,kF]) e2 λ h' hk=>?_));obtain⟨g1,D2⟩:=Zn (h':=h') (tk:=X4) hk;exact U3 (zL0 ES a g1 (ER.RZ D2) (IB0 D2)) (λ _ s2 zz=>Ln zz λ I2 g2 Q6=>⟨G,e,(bC λ _ q=>P6).V2 I2,g2,Q6,hP⟩) λ _ _ h=>V4
theorem BM0(o i:v0)(C2:Q3)(v:K0):∃ks:K0->K0->P0 K0,AK (.xC o i C2) N0 v=(do
    let ov <-QH [v] (M5 o N0)
    let iv <-QH [v,ov] (M5 i N0)
    QI C2
    QH [v,ov,iv] (Pl ov iv v)
    My (ks ov iv) []):=⟨_,O⟩
theorem Iv(CT:XD B T)(ON:xE)(H:x7 B g cl n ih)(X:F5 B n A N0 L O0 G s){t:v0}{p:PV}{v:K0}(r:F3 G W0 p v):
  U4 B (yE B N0 D0) (C5 N0 L) A (XC FZ T ih (cT L (cE g cl k L) t) p O0) (AK t N0 v) G s:=by
 have md:∀{D':C1->Prop}{m:M PV}{t':X7 S7},(∀y,D' y->D0 y)->U4 B (yE B N0 D') (C5 N0 L) A m t' G s->U4 B (yE B N0 D0) (C5 N0 L) A m t' G s:=λ hD h P X M0=>
  U3 (h P X M0) (λ _ _ ⟨G2,a,I2,g2,Q6,hp⟩=>⟨G2,a,I2,g2,T5.Au Q6 hD,hp⟩) λ _ _ px=>px
 have nm:∀{b},N2 b->C5 N0 L b:=λ q=>P6;cases t using Z9 with
 |Z3 x C2=>exact md (λ y hy=>hy.1) (I50 II VB OR r)
 |P9 ts j C2=>exact md (λ y hy=>hy.1) (F90 cn II VB OR r)
 |yC o x C2=>
  intro P Q M0;change(XC FZ T ih (bif kD x then .Z1 (vc x) (cE g cl k L o)else .M2) p O0 R1).P1 P Q at M0;cases hx:kD x with
  |R0=>rw[hx]at M0;exact B4
  |I0=>
   rw[hx]at M0;have M0:(F1 (P5 (cE g cl k L o) O0) (λ ov=>F1 (Fr FZ T ov (vc x) p) λ _=>W1 O0) R1).P1 P Q:=M0;show V0 R2 A (do let ov <-QH [v] (M5 o N0);QI tV0;QH [v,ov] (PW ov x v);My [v,ov] []) _ _ s;have T7:V0 R2 A (do let ov <-QH [v] (M5 o N0);QI tV0;QH [v,ov] (PW ov x v);My [v,ov] []) (Po B (yE B N0 D0) N2 A G s P) (Px B N2 A G s Q) s:=by
    refine S0 (z7 ((H X).q8 M0 λ G1 s1 ov u D2 g1 ru D4=>S0 (yA (S0 (z7 ?_)))));refine(EK0 (F:=N2) CT ON hx g1 ru (v_ D2)).IE D2 D4 λ G2 s2 _ _ I2 V9 g2 _ A5=>?_;exact uT0 (.at (R:=yE B N0 D0) (a:=O0) (b:=()) I2 g2 (VL I2) A5)
   exact U3 T7 (λ _ _ ⟨G2,a,I2,g2,Q6,hp⟩=>⟨G2,a,kL λ _ q=>nm q,g2,Q6,hp⟩) λ _ _ ⟨G2,i,I2,g2,xi,hp⟩=>⟨G2,i,kL λ _ q=>nm q,g2,xi,hp⟩
 |xC o i C2=>
  intro P Q M0;have iR:cT L (cE g cl k L) (.xC o i C2)=.w0 (cE g cl k L o) (cE g cl k L i)\/cT L (cE g cl k L) (.xC o i C2)=.M2:=by
   cases i using Z9<;>first|exact .S2 O|exact .L2 O
  rcases iR with hc|hc
  ·rw[hc]at M0;have M0:(F1 (P5 (cE g cl k L o) O0) (λ ov=>F1 (P5 (cE g cl k L i) O0) λ iv=>F1 (xc FZ ov iv p) λ _=>W1 O0) R1).P1 P Q:=M0;obtain⟨ks,ek⟩:=BM0 (N0:=N0) o i C2 v;rw[ek];have T7:V0 R2 A (do
    let ov <-QH [v] (M5 o N0)
    let iv <-QH [v,ov] (M5 i N0)
    QI C2
    QH [v,ov,iv] (Pl ov iv v)
    My (ks ov iv) []) (Po B (yE B N0 D0) N2 A G s P) (Px B N2 A G s Q) s:=by
    refine S0 (z7 ((H X).q8 M0 λ G1 s1 ov u D2 g1 ru D4=>S0 (z7 ?_)));refine(H (GC D2 g1)).IE D2 D4 λ G2 s2 iv w I2 V9 g2 gX A5=>S0 (yA (S0 (z7 ?_)));refine(TL0 (FZ:=FZ) g2 (NK V9) gX (v_ I2)).IE I2 A5 λ G3 s3 _ _ S5 mD g3 _ uA=>?_;exact uT0 (.at (R:=yE B N0 D0) (a:=O0) (b:=()) S5 g3 (VL S5) uA)
   exact U3 T7 (λ _ _ ⟨G2,a,I2,g2,Q6,hp⟩=>⟨G2,a,kL λ _ q=>nm q,g2,Q6,hp⟩) λ _ _ ⟨G2,i,I2,g2,xi,hp⟩=>⟨G2,i,kL λ _ q=>nm q,g2,xi,hp⟩
  ·rw[hc]at M0;exact B4
 |_=>exact λ P Q M0=>B4
end
end
section
open PyProof.Rows
variable{B:Bs}{A:Around}{G G':Gh}{s s':Shared}{F:Addr->Prop}{FZ:Nat->Bool}
variable{g:Nat->Option PV}{cl:Nat->Nat}{n:Nat}{ih:B5}{T:Tab}{cenv:Env}{L:Kinds}{env:PV}{k:Nat}
def zE(N0:o6)(L:y5)(W:P0 H1)(b:H1):Prop:=C5 N0 L b\/b∈W
structure xH(B:Bs)(G:Gh)(h:O1)(N0:o6)(W:P0 H1):Prop where
 Jv:∀b∈W,s8 B G h b
 F0:LA∉W
 cel:∀y c,jF y=E0 c->c∉W
theorem xH.Kv{h:O1}{W:P0 H1}(x:xH B G h N0 W):∀b∈W,¬C5 N0 L b:=λ b hb q=>by
 rcases q with O|⟨y,_,hy⟩
 ·exact x.F0 hb
 ·exact x.cel y b hy hb
theorem xH.J6{W:P0 H1}(x:xH B G W0 N0 W)(st:Z2 B F G s G' s'):xH B G' T6 N0 W:=⟨λ b hb=>(x.Jv b hb).J6 st,x.F0,x.cel⟩
inductive VT(B:Bs)(F:H1->Prop)(A:B6)(G:Gh)(s:D1)(X:C0->K1->Prop)(e:K0)(s':D1):Prop
 |mk(G':Gh)(i:C0)(st:Z2 B F G s G' s')(g:J1 B A G' s')(x:rG G' i e)(t:qM G' T6 i)(p:X i tF)
theorem VT.H8{X:C0->K1->Prop}{e:K0}{N7:D1}(st:Z2 B F G s G' s')(h:VT B F A G' s' X e N7):VT B F A G s X e N7:=by obtain⟨G2,i,x,g,r,t,p⟩:=h;exact⟨G2,i,WN x,g,r,t,p⟩
theorem kj{L':y5}(es:sG A N0 L'){X:C0->K1->Prop}{F':H1->Prop}{R:K0->D1->Prop}(hF:∀b,F b->F' b)(hR:∀e s',VT B F' A G s X e s'->R e s'){e:K0}(px:Px B F A G s X e s'):pL R2 A N0 R e s':=by
 obtain⟨G1,i,st,g1,xi,hx⟩:=px;obtain⟨L0,e0,VK,y8,hf,WG⟩:=es.DD;exact bY g1 xi y8 hf (λ N7 kC tb=>hR _ _ ⟨G1,i,(Dn hF).V2 (kC.2.D5 λ _ q=>P6),kC.1,xi,tb,hx⟩) O WG
def mj(B:Bs)(g:C0->Q1 PV)(cl:C0->C0)(n:C0)(E:B5):Prop:=
 ∀{A:B6}{G:Gh}{s:D1}{N0:o6}{L:y5}{O0:PV}{k k':C0}{P4:v0}{O4:P0 U5}{a:It}{v:K0}{W:P0 H1}{R:tL->D1->Prop}{P:Fl->K1->Prop}{X:C0->K1->Prop},
  F5 B n A N0 L O0 G s->wG G W0 a v W->xH B G W0 N0 W->(AJ a=I0->∃e k p,P4=.P9 e k p)->(E.qp (cT L (cE g cl k L) P4) a (cS g cl k' L O4) O0 R1).P1 P X->
  (∀f s',Po B (VE B N0) (zE N0 L W) A G s P f s'->R (.ok f) s')->(∀e s',VT B (zE N0 L W) A G s X e s'->R (.ID e) s')->FC R2 A (.Ue P4 v O4 [] N0) R s
theorem CM0(CT:XD B T)(ON:xE)(HE:x7 B g cl n ih)(HS:sJ B g cl n ih)(HL:mj B g cl n ih):mj B g cl (n+1) (J6 FZ T ih):=by
 intro A G s N0 L O0 k k' P4 O4 a v W R P X X1 ia kP ht M0 MC zM;have X0:=N00;have M0:(F1 sP (λ o=>match o with
  |B2=>W1 (.W4 O0)
  |E0 p=>F1 (XC FZ T ih (cT L (cE g cl k L) P4) p.1 O0) λ e1=>F1 (ZC (cS g cl k' L O4) e1) λ f=>qe (Xm (cT L (cE g cl k L) P4) p.2 (cS g cl k' L O4)) f) R1).P1 P X:=M0
 have fW:∀b,xG W b->zE N0 L W b:=λ b q=> .L2 q;have fL:∀b,C5 N0 L b->zE N0 L W b:=λ b q=> .S2 q;refine Dv (Zj kR.nZ X0.gd ia kz ht M0 (λ s1 D2 g1 hf=>?_) λ s1 p u a' D2 g1 ru pa Mv hf=>?_)
 ·have A9:T5 B N0 D0 O0 G pE:=X0.w_ D2 ie D_;exact MC .W4 s1 ⟨G,.W4 O0,bC fW,g1,A9,hf⟩
 ·have A9:T5 B N0 D0 O0 G pE:=X0.w_ D2 ie D_;have Xa:F5 B n A N0 L O0 G s1:=⟨En,kR,g1,A9⟩;have kQ:=bC fW;have K50:∀e s',VT B (zE N0 L W) A G s1 X e s'->R (.ID e) s':=λ e s' h=>zM e s' (OJ kQ);have Xe:xH B G pE N0 W:=kP.J6 D2;refine U3 ((Iv CT ON HE Xa ru).q8 hf λ G2 s2 T8 _ I2 g2 Q6 DS=>?_) (λ _ _ h=>h) λ e s' px=>kj kR fL K50 px;refine U3 ((HS (k:=k') (st:=O4) En kR g2 Q6).IE I2 DS λ G3 s3 fl f S5 mD g3 rf AN=>?_) (λ _ _ h=>h) λ e s' px=>kj kR fL K50 px;have qj:=af (W00 fL);have WK:∀mO,T5 B N0 D0 mO G3 HB0->(Xm (cT L (cE g cl k L) P4) a' (cS g cl k' L O4) mO y_).P1 P X->FC R2 A (.Ue P4 v O4 [] N0) R s3:=λ mO nD h=>
   HL (k:=k) (k':=k') ⟨En,kR,g3,nD⟩ (MB0 S5 λ b hb=>⟨NB0 b hb,OB0 b hb⟩) (Xe.J6 S5) (λ q=>ht (pa▸q)) h (λ f' s' po=>MC f' s' (po.H8 qj)) λ e s' px=>zM e s' (O00 qj)
  cases fl using mf with
  |W4 e=>
   cases f using FH with
   |W4=>exact WK e rf AN
   |_=>exact OK
  |YB e=>
   cases f using FH with
   |YB=>exact WK e rf AN
   |_=>exact OK
  |ZB e=>
   cases f using FH with
   |ZB=>exact MC .W4 s3 ⟨G3,.W4 e,qj,g3,rf,AN⟩
   |_=>exact OK
  |U1 x e=>
   cases f using FH with
   |U1 y=>exact MC (.U1 y) s3 ⟨G3,.U1 x e,qj,g3,rf,AN⟩
   |_=>exact OK
def rj(B:Bs)(g:C0->Q1 PV)(cl:C0->C0)(n:C0)(E:B5):Prop:=
 ∀{A:B6}{G:Gh}{s:D1}{N0:o6}{L:y5}{O0:PV}{k k':C0}{XT:v0}{O4:P0 U5}{R:tL->D1->Prop}{P:Fl->K1->Prop}{X:C0->K1->Prop},
  F5 B n A N0 L O0 G s->(E.mv (cE g cl k L XT) (cS g cl k' L O4) O0 R1).P1 P X->
  (∀f s',Po B (VE B N0) (C5 N0 L) A G s P f s'->R (.ok f) s')->(∀e s',VT B (C5 N0 L) A G s X e s'->R (.ID e) s')->FC R2 A (.fx XT O4 [] N0) R s
theorem BV0(HT:cQ B g cl n ih)(HS:sJ B g cl n ih)(HL:rj B g cl n ih):rj B g cl (n+1) (J6 FZ T ih):=by
 intro A G s N0 L O0 k k' XT O4 R P X X1 M0 MC zM;have X0:=N00;have M0:(F1 (LC ih (cE g cl k L XT) O0) (λ c=>RI c (F1 (ZC (cS g cl k' L O4) O0) λ f=>qe (Me (cE g cl k L XT) (cS g cl k' L O4)) f) (W1 (.W4 O0))) R1).P1 P X:=M0;refine bT0 ?_;refine U3 ((HT X0).q8 M0 λ G1 s1 c b D2 g1 rb D4=>?_) (λ _ _ h=>h) λ e s' px=>kj kR (λ _ q=>P6) zM px;cases rb;have kQ:=bC (F':=C5 N0 L) λ _ q=>P6;cases c using n7 with
 |R0=>exact MC .W4 s1 ⟨G1,.W4 O0,kQ,g1,X0.EI D2,D4⟩
 |I0=>
  have D4:(F1 (ZC (cS g cl k' L O4) O0) (λ f=>qe (Me (cE g cl k L XT) (cS g cl k' L O4)) f) mF).P1 P X:=D4;refine U3 ((HS (k:=k') (st:=O4) En kR g1 (X0.EI D2)).IE kQ D4 λ G3 s3 fl f S5 mD g3 rf AN=>?_) (λ _ _ h=>h) λ e s' px=>kj kR (λ _ q=>q) zM px;have WK:∀mO,T5 B N0 D0 mO G3 HB0->(Me (cE g cl k L XT) (cS g cl k' L O4) mO y_).P1 P X->FC R2 A (.fx XT O4 [] N0) R s3:=λ mO nD h=>
   HL (k:=k) (k':=k') ⟨En,kR,g3,nD⟩ h (λ f' s' po=>MC f' s' (po.H8 S5)) λ e s' px=>zM e s' (O00 S5)
  cases fl using mf with
  |W4 e=>
   cases f using FH with
   |W4=>exact WK e rf AN
   |_=>exact OK
  |YB e=>
   cases f using FH with
   |YB=>exact WK e rf AN
   |_=>exact OK
  |ZB e=>
   cases f using FH with
   |ZB=>exact MC .W4 s3 ⟨G3,.W4 e,S5,g3,rf,AN⟩
   |_=>exact OK
  |U1 x e=>
   cases f using FH with
   |U1 y=>exact MC (.U1 y) s3 ⟨G3,.U1 x e,S5,g3,rf,AN⟩
   |_=>exact OK
theorem Nv{L':y5}(es:sG A N0 L'){X:C0->K1->Prop}{E:K0->D1->Prop}(hE:∀e s',Px B F A G s X e s'->E e s'){e:K0}(px:VT B F A G s X e s'):fw R2 A N0 E e s':=by
 symm;obtain⟨G1,i,st,g1,xi,⟨c,d,vs,Tb,hv,h1⟩,hx⟩:=px;have Ed:=xi;obtain⟨hi,O,_⟩:=Ed;ext;refine S0 (M7 hv O h1 ?_);have N6:V0 R2 A (Ge (.J0 (Mz i)) bW) (λ _ N7=>E (.J0 (Mz i)) N7) E s':=YQ g1 xi λ N7 kC=>hE _ _ ⟨G1,i,WN (kC.2.D5 λ _ q=>P6),kC.1,xi,hx⟩;first
  |exact N6
  |exact S0 (E2 N6)
def DM0(M:UB)(A:B6)(N0:o6)(I4:P0 U5)(Q:LJ->D1->Prop)(E:K0->D1->Prop)(f:LJ)(s:D1):Prop:=match f with
 |.W4=>V0 M A (jC I4 N0) Q E s
 |f=>Q f s
theorem Fd{I4:P0 U5}(H:sJ B g cl n ih)(C6:M8 n A)(es:sG A N0 L){G2:Gh}{s2:D1}{fl:Fl}{f:LJ}(st:Z2 B (C5 N0 L) G s G2 s2)(g2:J1 B A G2 s2)(rf:VE B N0 G2 IN fl f){P:Fl->K1->Prop}{X:C0->K1->Prop}
  (M0:(lK ih (cS g cl k L I4) fl QR).P1 P X):DM0 R2 A N0 I4 (Po B (VE B N0) (C5 N0 L) A G s P) (Px B (C5 N0 L) A G s X) f s2:=by
 cases fl using mf with
 |W4 e=>
  cases f using FH with
  |W4=>exact(H (k:=k) (st:=I4) C6 es g2 rf).H8 st M0
  |_=>exact OK
 |YB e=>
  cases f using FH with
  |YB=>exact⟨G2,.YB e,st,g2,rf,M0⟩
  |_=>exact OK
 |ZB e=>
  cases f using FH with
  |ZB=>exact⟨G2,.ZB e,st,g2,rf,M0⟩
  |_=>exact OK
 |U1 x e=>
  cases f using FH with
  |U1 y=>exact⟨G2,.U1 x e,st,g2,rf,M0⟩
  |_=>exact OK
theorem TX{α:Type}{w:C0}{b:I1}{m:M α}{σ:K1}{P:α->K1->Prop}{X:C0->K1->Prop}(h:(kA w b m σ).P1 P X):b=I0/\(m σ).P1 P X:=by
 cases b using n7 with
 |I0=>exact⟨O,h⟩
 |R0=>exact V4
theorem EM0{f:v0->C}{t:v0}{ts:C}(h:cT L f t=.Q0 ts):∃e j p,t=.P9 e j p:=by
 cases t using Z9 with
 |P9 e j p=>exact⟨e,j,p,O⟩
 |Z3 x p=>
  change(bif w4 x&&x6 L x then C.F0 (vc x)else .M2)=_ at h;cases hx:w4 x&&x6 L x<;>rw[hx]at h<;>contradiction
 |yC o x p=>
  change(bif kD x then C.Z1 (vc x) (f o)else .M2)=_ at h;cases hx:kD x<;>rw[hx]at h<;>contradiction
 |xC o i p=>cases i using Z9<;>contradiction
 |_=>contradiction
theorem L50{f:v0->C}{t:v0}{a:It}(h:wU a (cT L f t)=I0)(hp:AJ a=I0):∃e j p,t=.P9 e j p:=by
 have T7:∃ts,cT L f t=.Q0 ts:=by
  cases a using JP with
  |r8 a b=>exact I20 h
  |JE m a=>exact I20 h
  |_=>contradiction
 obtain⟨ts,e⟩:=T7;exact EM0 e
theorem FM0{l:P0 H1}{G:Gh}{h:O1}(hk:EL G h l h){fl:Fl}{f:LJ}(r:VE B N0 G h fl f):VE B N0 (EO l) h fl f:=by
 cases fl using mf with
 |W4 e=>cases f<;>first|exact iz r hk λ _ _ e=>e|exact VI
 |YB e=>cases f<;>first|exact iz r hk λ _ _ e=>e|exact VI
 |ZB e=>cases f<;>first|exact iz r hk λ _ _ e=>e|exact VI
 |U1 x e=>cases f<;>first|exact yc hk r|exact VI
set_option backward.match.sparseCases true in
theorem GM0(BF:R7 B g)(HE:x7 B g cl n ih)(HL:mj B g cl n ih)(HS:sJ B g cl n ih)(X:F5 B n A N0 L O0 G s){t it:v0}{O4 I4:P0 U5}{C2:Q3}{k1 k2 k3:C0}{P:Fl->K1->Prop}{Q:C0->K1->Prop}
  (M0:(F1 (FQ ih O0 (cI (cE g cl k L) L it)) (λ a=>kA 84 (wU a (cT L (cE g cl k1 L) t)) (F1 (Xm (cT L (cE g cl k1 L) t) a (cS g cl k2 L O4) O0) λ fl=>lK ih (cS g cl k3 L I4) fl)) R1).P1 P Q):
  V0 R2 A (jC (.YX t it O4 [] C2::I4) N0) (Po B (VE B N0) (C5 N0 L) A G s P) (Px B (C5 N0 L) A G s Q) s:=by
 refine xA (XV0 ?_ λ x=>Av M0 x);have nm:∀{e:K0}{s':D1},Px B N2 A G s Q e s'->Px B (C5 N0 L) A G s Q e s':=λ⟨G2,i,I2,g2,xi,hp⟩=>⟨G2,i,kL λ _ q=>P6,g2,xi,hp⟩;refine U3 (G50 BF HE X M0 (K:=λ v s2=>FC R2 A (.Ue t v O4 [] N0) (λ r s'=>match r with
   |.ok f=>(match f with|.W4=>V0 R2 A (jC I4 N0) (Po B (VE B N0) (C5 N0 L) A G s P) (Px B (C5 N0 L) A G s Q) s'|f=>Po B (VE B N0) (C5 N0 L) A G s P f s')
   |.ID e=>fw R2 A N0 (Px B (C5 N0 L) A G s Q) e s') s2) λ G1 s1 l h' tk a v W D2 g1 hk hW hl gw ia oA hf=>?_)
  (λ x s1 h=>U3 h (λ _ _ h=>h) λ _ _ px=>nm px) λ _ _ px=>nm px
 obtain⟨ht,hf⟩:=TX hf;have kQ:=bC (F':=C5 N0 L) λ _ q=>P6;have av:EL G1 pE (l++iD) h':=Cd hk λ b hb=>hW b (hl b hb);have A9:=VL D2;have Ov:T5 B N0 D0 O0 (jN (l++iD)) h':=A9.kW av hk;have kP:xH B (jN (l++iD)) h' N0 W:=by
  refine⟨oA,λ q=>?_,λ y c hc q=>?_⟩
  ·obtain⟨m,⟨o,_,_,e,_⟩,_⟩:=A9.ns;rw[hW _ q]at e;contradiction
  ·obtain⟨u,o,e,_⟩:=A9.Si y c hc;rw[hW _ q]at e;contradiction
 have hF:∀b,zE N0 L W b->C5 N0 L b\/FJ b=H0:=λ b q=>q.JM id λ q=>hW b q;refine HL (k:=k1) (k':=k2) (G:=jN (l++iD)) (s:={s1 with A3:=h',y3:=tk}) (P:=λ fl σ=>(lK ih (cS g cl k3 L I4) fl σ).P1 P Q) (X:=Q) ⟨aD,SB,gw,Ov⟩ ia kP (L50 ht) (j6 hf) (λ f s2 po=>?_) λ e s2 px=>?_
 ·obtain⟨G2,fl,I2,g2,rf,hp⟩:=po;have sj:∀b∈iD,b∈G2.av:=λ b hb=>by rw[I2.IU];exact OZ _ hb
  have Gd:=Qy (s:=s1) hk (λ b hb=>hW b (hl b hb)) I2 hF;have N6:=Fd (k:=k3) HS aD SB (af Gd) (g2.SG sj) (FM0 (λ b vs n hb e=>⟨λ q=>hb (sj b q),e⟩) rf) hp;cases f<;>exact N6
 ·obtain⟨G2,i,I2,g2,xi,tb,hp⟩:=px;have sj:∀b∈iD,b∈G2.av:=λ b hb=>by rw[I2.IU];exact OZ _ hb
  have Gd:=Qy (s:=s1) hk (λ b hb=>hW b (hl b hb)) I2 hF;exact Nv SB (λ _ _ h=>h) ⟨G2.kW iD,i,af Gd,g2.SG sj,xi.kW,tb,hp⟩
theorem HM0(HL:rj B g cl n ih)(HS:sJ B g cl n ih)(X:F5 B n A N0 L O0 G s){t:v0}{O4 I4:P0 U5}{C2:Q3}{k2 k3:C0}{P:Fl->K1->Prop}{Q:C0->K1->Prop}
  (M0:(F1 (Me (cE g cl k L t) (cS g cl k2 L O4) O0) (λ fl=>lK ih (cS g cl k3 L I4) fl) R1).P1 P Q):
  V0 R2 A (jC (.sy t O4 [] C2::I4) N0) (Po B (VE B N0) (C5 N0 L) A G s P) (Px B (C5 N0 L) A G s Q) s:=by
 refine xA (wpAny_While ?_);refine HL (k:=k) (k':=k2) (P:=λ fl σ=>(lK ih (cS g cl k3 L I4) fl σ).P1 P Q) (X:=Q) X (j6 M0) (λ f s2 po=>?_) λ e s2 px=>Nv SB (λ _ _ h=>h) px;obtain⟨G2,fl,I2,g2,rf,hp⟩:=po;have N6:=Fd (k:=k3) HS aD SB I2 g2 rf hp;cases f<;>exact N6
end
section
open PyProof.Rows
variable{B:Bs}{A:Around}{G G':Gh}{s s':Shared}{F:Addr->Prop}{FZ:Nat->Bool}
variable{g:Nat->Option PV}{cl:Nat->Nat}{n:Nat}{ih:B5}{T:Tab}{cenv:Env}{L:Kinds}{env:PV}{k:Nat}
theorem J1.be{C:H1}{h':O1}{G1 G2:Gh}{s1 s2:D1}(g1:J1 B A G1 s1)(g2:J1 B A G2 s2)(st:Z2 B F G1 s1 G2 s2)(hC:s8 B G2 IN C)(hn:FJ C=H0)(hd:∀o,s2.FV C=E0 o->∃es ep,F9=.H2 es ep)(hs:TA C IN h'):
  J1 B A G2 {s2 with A3:=h'}/\Z2 B F G1 s1 G2 {s2 with A3:=h'}:=by
 have k:∀b o,b≠C->s2.FV b=E0 o->C3 b=E0 o:=λ b o hb e=>cW b o hb e;have Ia:∀{b o},FJ b=E0 o->b≠C:=λ e q=>by rw[q,hn]at e;contradiction
 have Q0:∀b vs n,s2.FV b=E0 (E8 vs n)->C3 b=E0 (E8 vs n):=λ b vs n e=>k b _ (by
  rintro O;obtain⟨es,ep,q⟩:=hd _ e;contradiction) e
 have Qv:∀{b o vs},s2.FV b=E0 o->F9=.R5 vs->b≠C:=λ e d q=>by
  subst q;obtain⟨es,ep,q⟩:=hd _ e;rw[d]at q;contradiction
 obtain⟨h2,t2,O⟩:=Ff;obtain⟨l,hl,FO⟩:=g1.fr;have k3:UE pE h':=⟨λ b o ts e c d=>by
   obtain⟨o',fH,e',c',d',z⟩:=xW.tb b o ts e c d;exact⟨o',fH,k _ _ (Ia e) e',c',d',z⟩,λ b o e c d=>by
   obtain⟨o',e',c',d'⟩:=xW.fr b o e c d;exact⟨o',k _ _ (Ia e) e',c',d'⟩,λ b o e c=>k _ _ (Ia e) (xW.YA b o e c)⟩
 refine⟨⟨g2.ty,⟨g2.bp,λ i hi=>?_,g2.inv.big,g2.wR0,λ a ha=>?_⟩,λ b o e h1 h3 h4=>k _ _ (λ q=>by rw[q,PB0]at e;contradiction) (cU b o e h1 h3 h4),
  qR _ _ (λ b o e hz=>k _ _ (AB0 (λ q z=>hC.z (z▸q)) λ c=>Bo (λ c=>by obtain⟨_,_,d⟩:=c;exact Qv e d) λ zz z=>wL zz λ y q=>by rw[z,PB0]at q;contradiction) e) g2.JG,l,hl,Hn k3⟩,⟨h',t2,O⟩,xT,Kf,λ b o e=>?_,λ b o e h1 h3 h4=>?_,λ b vs n hb e=>Q0 _ _ _ (DX b vs n hb e),k3⟩
 ·by_cases ha:en i=.K4
  ·rw[ha];trivial
  ·have Y6:vW i≠C:=λ q=>hC.s9 ⟨i,hi,ha,q⟩;have ob:=g2.Op i hi;have ho:∀o,h2.W5 (vW i)=E0 o->C3 (vW i)=E0 o:=λ o e=>k _ _ Y6 e;have tk:zB G2.av h2 h':=λ b vs n _ e=>Q0 b vs n e;cases ex:en i with
   |K4=>exact T3 ex ha
   |M1 l=>rw[ex]at ob;obtain⟨vs,n,e,r⟩:=ob;exact⟨vs,n,ho _ e,UI (.L5 _) tk⟩
   |H2 l=>rw[ex]at ob;obtain⟨U2,⟨o,es,ep,e,q⟩,r⟩:=ob;exact⟨U2,⟨o,es,ep,ho _ e,q⟩,UI (.L5 _) tk⟩
   |V6 l=>rw[ex]at ob;obtain⟨U2,o,e,hc,hn,nd,r⟩:=ob;exact⟨U2,o,ho _ e,hc,hn.at λ o e=>ho _ e,nd,UI (.L5 _) tk⟩
   |u7 c d=>rw[ex]at ob;obtain⟨e,q,f⟩:=ob;exact⟨ho _ e,q,f⟩
   |J8 cx c d=>
    rw[ex]at ob;obtain⟨vs,e,hl,q,t1,t2⟩:=ob;refine⟨vs,ho _ e,hl,q,t1,t2.JM id λ z=>by obtain⟨T,oT,ts,e1,e2,c1,d1,z1⟩:=z;exact⟨T,oT,ts,e1,k _ _ (Qv e2 d1) e2,c1,d1,z1⟩⟩
   |lA m=>
    rw[ex]at ob;refine B.HI0 m h2 h' _ (λ b o e q=>?_) ob;rcases q with O|q
    ·exact ho _ e
    ·obtain⟨_,_,d⟩:=q;exact k _ _ (Qv e d) e
   |bm f u=>rw[ex]at ob;obtain⟨w,e,r⟩:=ob;exact⟨w,ho _ e,UI (.L5 _) tk⟩
   |R4=>rw[ex]at ob;obtain⟨x,t,y,u,n,e⟩:=ob;exact⟨x,t,y,u,n,ho _ e⟩
   |ti x=>rw[ex]at ob;exact ob.HB
 ·obtain⟨h1,o,e⟩:=g2.t70 a ha;obtain⟨_,o1,e1⟩:=f00 a (by rw[<-LX];exact ha);exact⟨h1,o,k _ _ (Ia e1) e⟩
 ·obtain⟨o',e'⟩:=Zf b o e;exact⟨o',k _ _ (Ia e) e'⟩
 ·obtain⟨o',e',q⟩:=GX b o e h1 h3 h4;exact⟨o',k _ _ (Ia e) e',q⟩
structure lQ(L:y5)(sc:BB)(P4:v0):Prop where
 fn:Of=.pF
 nt:(∃x p,P4=.Z3 x p)\/∃e j p,P4=.P9 e j p
 F0:∀x,UC x=E0 .F7->x=".0"\/x∈YF P4
 each:∀x∈u5,x.1≠"__class__"/\((x.2=.F7/\UC x.1=E0 .F7)\/(x.2=.i7/\D9 x.1=E0 .l6/\UC x.1=E0 .i7)\/(x.2=.LL/\UC x.1=E0 .LL))
theorem IM0:∀{l m:P0 C1},Oh l m=I0->l=m:=by
 intro l;induction l with
 |B0=>
  intro m h;cases m using c5 with
  |B0=>rfl
  |A0 _ _=>contradiction
 |A0 x l ih=>
  intro m h;cases m using c5 with
  |B0=>contradiction
  |A0 y m=>
  have h:(x==y&&Oh l m)=I0:=h;rw[N5,DU]at h;rw[h.1,ih h.2]
theorem FU{α:Type}{x:C1}{v:α}:∀{l:P0 (C1×α)},l.X9 x=E0 v->(x,v)∈l:=by
 intro zq;induction zq with
 |B0=>
  intro h;contradiction
 |A0 pq r ih=>
  intro h;obtain⟨y,u⟩:=pq;rw[BR]at h;cases hx:x==y with
  |I0=>rw[hx]at h;obtain O:=H3 h;rw[YD hx];exact TE ..
  |R0=>rw[hx]at h;exact yB _ (ih h)
theorem M50{sc:BB}{P4:v0}(h:JQ L sc P4=I0):lQ L sc P4:=by
 unfold JQ at h;simp -u4 only[N5]at h;obtain⟨⟨⟨h1,h2⟩,h3⟩,h4⟩:=h;refine⟨?_,?_,λ x hx=>?_,λ x hx=>?_⟩
 ·generalize Of=k at h1 ⊢;cases k<;>first|rfl|contradiction
 ·cases q:U7 P4 with
  |E0 x=>exact .S2 ⟨x,FY q⟩
  |H0=>
   rw[q]at h2;obtain⟨ts,q2⟩:=ZS0 h2;exact .L2 ⟨ts,FC0 q2⟩
 ·have hm:=FU hx;have e:=IM0 h3;have:x∈((u5.Lm λ x=>x.2==.F7).Y4 (·.1)):=AP ⟨(x,.F7),vT0 ⟨hm,by trivial⟩,O⟩;rw[e]at J2;exact dA J2
 ·have:=zQ h4 x hx;simp -u4 only[N5,yO,X80,Nz]at J2;refine⟨J2.1,?_⟩;have t2:=J2.2;obtain⟨y,k⟩:=x;cases k using Kt with
  |«local»=>
   have t2:(l7 u5 y&&!(D7 u5 y)&&(UC y==E0 .F7))=I0:=t2;rw[N5]at t2;exact .S2 ⟨O,DU.mp t2.2⟩
  |i7=>
   have t2:(D9 y==E0 .l6&&UC y==E0 .i7)=I0:=t2;rw[N5]at t2;exact .L2 (.S2 ⟨O,DU.mp t2.1,DU.mp t2.2⟩)
  |LL=>exact .L2 (.L2 ⟨O,DU.mp t2⟩)
  |_=>contradiction
theorem JM0{R9:o6}(hc:∀x,D9 x=E0 .l6->R9.mT x=E0 .l6)(hf:R9.ST=.pF):∀{y7:P0 (C1×AR)}{x:C1},(∀y∈y7,y.2=.F7\/(y.2=.i7/\D9 y.1=E0 .l6)\/y.2=.LL)->
  (y7.Y4 λ(n,k)=>if(k==AR.i7&&R9.ST==.pF&&R9.mT n==E0 .l6)then(n,FR)else(n,k)).X9 x=(names.lookup x).Y4 λ k=>if k=.i7 then .l6 else k:=by
 intro y7;induction y7 with
 |B0=>exact λ _=>O
 |A0 a r ih=>
  intro x h;obtain⟨m,k⟩:=a;have ih:=ih (x:=x) λ y hy=>h y (yB _ hy);have hh:=h (m,k) (TE ..);have hp:(if(k==AR.i7&&R9.ST==.pF&&R9.mT m==E0 .l6)=I0 then(m,FR)else(m,k))=(m,if k=.i7 then .l6 else k):=by
   rcases hh with q|⟨q,q2⟩|q
   ·have q:k=.F7:=q;subst q;simp -u4
   ·have q:k=.i7:=q;subst q;rw[hf,hc m q2];simp -u4
   ·have q:k=.LL:=q;subst q;simp -u4
  show P0.X9 x ((if(k==AR.i7&&R9.ST==.pF&&R9.mT m==E0 .l6)=I0 then(m,FR)else(m,k))::_)=_;rw[hp,BR,BR];cases x==m
  ·exact ih
  ·rfl
theorem KM0{R9:o6}:∀{y7:P0 (C1×AR)}(M3:P0 (C1×H1)),(∀y∈y7,y.2=.i7->∃c,bj y.1=E0 c)->(∀p∈M3,bj p.1=E0 p.2)->
  ∃cl:P0 (C1×H1),(Cf y7 M3 (λ(x:C1×AR) (cs:P0 (C1×H1))=>if(x.2==AR.i7)=I0 then(do let c <-Sy R9 x.1;J4 (kl.rW ((x.1,c)::cs)))else J4 (kl.rW cs)):X7 (P0 (C1×H1)))=J4 cl/\(∀p∈cl,bj p.1=E0 p.2)/\(∀p∈M3,p∈cl)/\∀y∈y7,y.2=.i7->∃c,(y.1,c)∈cl:=by
 intro zq;induction zq with
 |B0=>
  intro M3 _ ha;exact⟨M3,O,ha,λ _ h=>h,λ _ h=>(nomatch h)⟩
 |A0 pq r ih=>
  intro M3 h ha;obtain⟨m,k⟩:=pq;rw[JW];by_cases hk:k=.i7
  ·subst hk;obtain⟨c,hc⟩:=h (m,.i7) (TE ..) O;obtain⟨cl,e,h1,h2,h3⟩:=ih ((m,c)::M3) (λ y hy=>h y (yB _ hy)) (λ p hp=>by
    rcases dA hp with O|hp
    ·exact hc
    ·exact ha p hp)
   refine⟨cl,?_,h1,λ p hp=>h2 p (yB _ hp),λ y hy q=>?_⟩
   ·rw[w3 (by rfl)];have:Sy R9 m=J4 c:=by unfold Sy;rw[hc]
    rw[J2];exact e
   ·rcases dA hy with O|hy
    ·exact⟨c,h2 _ (TE ..)⟩
    ·exact h3 y hy q
  ·obtain⟨cl,e,h1,h2,h3⟩:=ih M3 (λ y hy=>h y (yB _ hy)) ha;refine⟨cl,?_,h1,h2,λ y hy q=>?_⟩
   ·rw[u3 (by simpa -u4 using hk)];exact e
   ·rcases dA hy with O|hy
    ·exact T3 q hk
    ·exact h3 y hy q
theorem N50{sc:BB}{R9:o6}(h:∀y∈u5,y.2=.i7->∃c,bj y.1=E0 c):
  ∃cl:P0 (C1×H1),Zl sc R9=J4 cl/\(∀x c,cl.X9 x=E0 c->bj x=E0 c)/\∀y∈u5,y.2=.i7->∃c,cl.X9 y.1=E0 c:=by
 obtain⟨cl,e,h1,_,h3⟩:=KM0 (y7:=u5) (R9:=R9) [] h (λ _ h=>nomatch h);refine⟨cl,?_,λ x c hx=>h1 _ (FU hx),λ y hy q=>?_⟩
 ·unfold Zl;first
   |exact e
   |(simp -u4 only[bind_pure];exact e)
   |(rw[<-e];rfl)
 ·obtain⟨c,hc⟩:=h3 y hy q;cases hx:cl.X9 y.1 with
  |E0 c'=>exact⟨c',O⟩
  |H0=>
   exfalso
   have:∀{l:P0 (C1×H1)},l.X9 y.1=H0->∀c,(y.1,c)∉l:=λ{l}=>by
    induction l with
    |B0=>intro _ c h;contradiction
    |A0 p r ih=>
     intro hl c hm;rw[BR]at hl;cases hb:y.1==p.1 with
     |I0=>rw[hb]at hl;contradiction
     |R0=>
      rw[hb]at hl;rcases dA hm with q|q
      ·rw[<-q]at hb;simp -u4 at hb
      ·exact ih hl c q
   exact J2 hx c hc
end
section
section
open PyProof.Rows
variable{B:Bs}{A:Around}{G G':Gh}{s s':Shared}{F:Addr->Prop}{FZ:Nat->Bool}
variable{g:Nat->Option PV}{cl:Nat->Nat}{n:Nat}{ih:B5}{T:Tab}{cenv:Env}{L:Kinds}{env:PV}{k:Nat}
section
variable{sc:Scope}{tgt:Expr}{cs:List (Str×Addr)}{C:Addr}
theorem qY(co:lQ L sc P4)(ES:j9 N0 L)(x:C1):(PP sc cs C N0).mT x=(UC x).Y4 λ k=>if k=.i7 then .l6 else k:=
 JM0 (λ x q=>D00 x q) aP λ y hy=>by
  rcases(Ve y hy).2 with h|h|h
  ·exact .S2 h.1
  ·exact .L2 (.S2 ⟨h.1,h.2.1⟩)
  ·exact .L2 (.L2 h.1)
theorem vj(co:lQ L sc P4){x:C1}{kd:AR}(h:UC x=E0 kd):x≠"__class__"/\(kd=.F7\/(kd=.i7/\D9 x=E0 .l6)\/kd=.LL):=by
 obtain⟨h1,h2⟩:=Ve _ (FU h);refine⟨h1,?_⟩;rcases h2 with h2|h2|h2
 ·exact .S2 h2.1
 ·exact .L2 (.S2 ⟨h2.1,h2.2.1⟩)
 ·exact .L2 (.L2 h2.1)
theorem LM0(co:lQ L sc P4)(ES:sG A N0 L):sG A (PP sc cs C N0) u5:=by
 refine⟨⟨Oz,λ x q=>?_,λ x q=>?_,λ x q=> .S2 ?_,λ x q=>?_,qn,ES.lF,λ q=>?_⟩,ES.DD,P00⟩
 ·rw[qY co IF,q];rfl
 ·rcases(vj co q).2 with h|h|h
  ·contradiction
  ·cases h.1
  ·contradiction
 ·rw[qY co IF,q];rfl
 ·rw[qY co IF,q];rfl
 ·rw[qY co IF]at q;cases hl:UC ("__class__":C1)with
  |H0=>rw[hl]at q;contradiction
  |E0 kd=>exact(vj co hl).1 O
theorem O50(co:lQ L sc P4)(ES:j9 N0 L){x:C1}(h:(PP sc cs C N0).mT x=E0 .F7):UC x=E0 .F7:=by
 rw[qY co ES]at h;cases hl:UC x with
 |H0=>rw[hl]at h;contradiction
 |E0 kd=>
  rw[hl]at h;rcases(vj co hl).2 with q|q|q
  ·rw[q]
  ·obtain⟨q,_⟩:=q;subst q;contradiction
  ·subst q;contradiction
theorem P50(co:lQ L sc P4)(ES:j9 N0 L){x:C1}(h:(PP sc cs C N0).mT x=E0 .l6\/(PP sc cs C N0).mT x=E0 .i7):UC x=E0 .i7/\zA x=E0 .l6:=by
 rw[qY co ES]at h;cases hl:UC x with
 |H0=>rw[hl]at h;rcases h with h|h<;>contradiction
 |E0 kd=>
  rw[hl]at h;rcases(vj co hl).2 with q|q|q
  ·subst q;rcases h with h|h<;>contradiction
  ·obtain⟨q,q2⟩:=q;subst q;exact⟨O,D00 x q2⟩
  ·subst q;rcases h with h|h<;>contradiction
theorem MM0(co:lQ L sc P4)(ES:j9 N0 L)(UF:∀x c,jf x=E0 c->jF x=E0 c)(qN:∀y∈u5,y.2=.i7->∃c,jf y.1=E0 c){h:O1}(er:T5 B N0 D0 O0 G h)(hC:s8 B G h C)(hn:∃m,aH C m):
  T5 B (PP sc cs C N0) (λ y=>UC y=E0 .F7) O0 G h:=by
 obtain⟨m,hm⟩:=hn;refine⟨⟨m,hm,λ x v h1 h2 _ _=>T3 (O50 co ES h1) h2⟩,λ x v h1 h3 h4=>?_,λ x c e=>OX x c (UF x c e),λ x h1=>?_,λ x y c e e'=>Cy x y c (UF x c e) (UF y c e'),⟨hC.s9,PB0,hC.z⟩,λ x c e=>yW x c (UF x c e),Kg⟩
 ·symm;obtain⟨q1,q2⟩:=P50 co ES h1;obtain⟨c,u,hc,hi,r⟩:=C00 x v (.S2 q2) h3 h4;obtain⟨c',aB⟩:=qN (x,.i7) (FU q1) O;have:=UF x c' aB;rw[hc]at J2;obtain O:=H3 J2;ext;exact⟨c,u,aB,hi,r⟩
 ·obtain⟨q1,q2⟩:=P50 co ES (.S2 h1);exact qN (x,.i7) (FU q1) O
end
theorem T5.reset{D:C1->Prop}(er:T5 B N0 D O0 G W0)(hD:∀x,zA x=E0 .F7->D x)(st:Z2 B F G s G' s')(hC:∀y c,jF y=E0 c->¬F c)(hn:∃m,yf LA m):T5 B N0 D O0 G' T6:=by
 obtain⟨m,hm⟩:=hn;have kc:∀y c u,jF y=E0 c->s.pd c u->s'.pd c u:=λ y c u hl hc=>by
  obtain⟨o,e,d⟩:=id hc;exact WW.L3 hc λ o' e'=>B00 e' (yW y c hl).1 (hC y c hl) (yW y c hl).2.2 (by rw[e]at e';obtain O:=H3 e';rw[d];intro vs q;contradiction)
 have s9:∀b o,E3 b=E0 o->¬u9 G b->¬u9 G' b:=λ b o e n q=>by
  rcases Kf b q with h|h
  ·exact n h
  ·rw[e]at h;contradiction
 refine⟨⟨m,hm,λ x v h1 h2 _ _=>T3 (hD x h1) h2⟩,λ y v h1 h3 h4=>?_,λ y c hl=>?_,Jo,Cy,⟨?_,dP.2⟩,λ y c hl=>⟨?_,(yW y c hl).2⟩,Kg⟩
 ·obtain⟨c,u,hl,hc,r⟩:=C00 y v h1 h3 h4;exact⟨c,u,hl,kc y c _ hl hc,v_ st⟩
 ·obtain⟨u,hu⟩:=OX y c hl;exact⟨u,kc y c u hl hu⟩
 ·obtain⟨m0,⟨o,_,_,e,_⟩,_⟩:=dU;exact s9 _ o e dP.1
 ·obtain⟨u,o,e,_⟩:=OX y c hl;exact s9 _ o e (yW y c hl).1
theorem NM0(gd:J1 B A G s){r:C0}(hr:r<I3){p:PV}{v:K0}(rp:F3 G W0 p v){γ:Type}{f:S7->M γ}{P:γ->K1->Prop}{X:C0->K1->Prop}(M0:(F1 (Mq r p) f R1).P1 P X){K:D1->Prop}{E:K0->D1->Prop}
  (hK:∀G' s',Z2 B N2 G s G' s'->J1 B A G' s'->(f () tF).P1 P X->K s'):V0 R2 A (W7 (.Z4 "list.append") [.J0 (Y2 r),v]) (λ _ s'=>K s') E s:=by
 have M0:(F1 ((match O3 r with|.M1 l=>bif H5 l then qW r (.M1 (nR p l))else F2 82|_=>F2 82):M S7) f R1).P1 P X:=M0;generalize ex:O3 r=zo at M0;cases zo using EA with
 |M1 l=>
  change(F1 (bif H5 l then qW r (.M1 (nR p l))else F2 82) f R1).P1 P X at M0;cases hs:H5 l with
  |R0=>rw[hs]at M0;exact B4
  |I0=>
   rw[hs]at M0;have M0:(f () (G.VU r (.M1 (nR p l)))).P1 P X:=M0;have sn:=Y40 (FZ:=λ _=>R0) gd hr ex (L1:=.A0 p .B0) (vs:=[v]) ⟨v,[],O,rp,O⟩ (λ _ σ=>(f () σ).P1 P X) (λ _ _=>I6) (by
    show((bif H5 l then F1 (GE (λ _=>R0) r (.M1 (nR p l))) λ _=>W1 OH else F2 40) R1).P1 _ _;rw[hs];exact M0)
   exact U3 sn (λ _ s' ⟨G2,a,st,g2,_,hp⟩=>hK G2 s' st g2 hp) λ _ _ ⟨_,_,_,_,_,h⟩=>V4
 |_=>exact B4
structure wj(B:Bs)(F:H1->Prop)(A:B6)(G:Gh)(s:D1)(C:H1)(P:S7->K1->Prop)(s':D1):Prop where
 ex:∃G',Z2 B F G s G' s'/\J1 B A G' s'/\P () tF/\s8 B G' T6 C
 ns:∃m,yf C m
structure xj(B:Bs)(F:H1->Prop)(A:B6)(G:Gh)(s:D1)(C:H1)(X:C0->K1->Prop)(e:K0)(s':D1):Prop where
 ex:∃G' i,Z2 B F G s G' s'/\J1 B A G' s'/\rG G' i e/\qM G' T6 i/\X i tF/\s8 B G' T6 C
 ns:∃m,yf C m
theorem wj.H8{C:H1}{P:S7->K1->Prop}{N7:D1}(st:Z2 B F G s G' s')(h:wj B F A G' s' C P N7):wj B F A G s C P N7:=by obtain⟨G2,x,g,p,a⟩:=h.ex;exact⟨⟨G2,WN x,g,p,a⟩,h.ns⟩
theorem xj.H8{C:H1}{X:C0->K1->Prop}{e:K0}{N7:D1}(st:Z2 B F G s G' s')(h:xj B F A G' s' C X e N7):xj B F A G s C X e N7:=by obtain⟨G2,i,x,g,r,t,p,a⟩:=h.ex;exact⟨⟨G2,i,WN x,g,r,t,p,a⟩,h.ns⟩
def Q50(t:v0):Prop:=(∃x p,t=.Z3 x p)\/∃e j p,t=.P9 e j p
def rY(B:Bs)(g:C0->Q1 PV)(cl:C0->C0)(n:C0)(E:B5):Prop:=
 ∀{A:B6}{G:Gh}{s:D1}{N0:o6}{L:y5}{O0:PV}{k:C0}{P4 X5 iI:v0}{z6:P0 v0}{tc:C}{sc:BB}{C2:Q3}{a:It}{v:K0}{W:P0 H1}{r:C0}{R:tL->D1->Prop}{P:S7->K1->Prop}{X:C0->K1->Prop},
  ((z6=[]/\tc=cT L (cE g cl k L) P4)\/tc=.M2)->(∀x,D9 x≠E0 .l6)->(∀x,D9 x=E0 .F7->x=".0"\/x∈YF P4)->(∀x,zA x=E0 .F7->D9 x=E0 .F7)->Q50 P4->M8 n A->sG A N0 L->J1 B A G s->T5 B N0 (λ y=>D9 y=E0 .F7) O0 G W0->
  wG G W0 a v W->xH B G W0 N0 W->(AJ a=I0->∃e k p,P4=.P9 e k p)->r<I3->(E.vp (cE g cl k L X5) tc a r O0 R1).P1 P X->
  (∀s',wj B (zE N0 L W) A G s LA P s'->R (.ok .W4) s')->(∀e s',xj B (zE N0 L W) A G s LA X e s'->R (.ID e) s')->
  FC R2 A (.Bm (.NB X5 [⟨P4,iI,z6,0⟩] sc C2) 0 v (.J0 (Y2 r)) N0) R s
theorem R50{t:v0}(nt:Q50 t){f:v0->C}{p O0:PV}{P:PV->K1->Prop}{X X':C0->K1->Prop}{σ:K1}(h:(XC FZ T ih (cT L f t) p O0 σ).P1 P X):(XC FZ T ih (cT L f t) p O0 σ).P1 P X':=by
 rcases nt with⟨x,q,O⟩|⟨e,j,q,O⟩
 ·change(XC FZ T ih (bif w4 x&&x6 L x then .F0 (vc x)else .M2) p O0 σ).P1 P X at h;change(XC FZ T ih (bif w4 x&&x6 L x then .F0 (vc x)else .M2) p O0 σ).P1 P X';cases hx:w4 x&&x6 L x with
  |R0=>rw[hx]at h;exact V4
  |I0=>rw[hx]at h;exact h
 ·symm;obtain⟨l,hp,h⟩:=Gv h;obtain⟨ef,_,hq,hr⟩:=Fv h;rcases hp with O|⟨i,O,ex⟩
  ·ext;exact hr _ _ hq
  ·ext;show(((match AA i with|.M1 l=>c_ (Q8 (zU L f) e) l O0|_=>F2 74):M PV) σ).P1 P X';rw[ex];exact hr _ _ hq
theorem OM0(HE:x7 B g cl n ih)(HL:rY B g cl n ih):rY B g cl (n+1) (J6 FZ T ih):=by
 intro A G s N0 L O0 k P4 X5 iI z6 tc sc C2 a v W r R P X hif sW sR hkl nt C6 es gd er ia kP ht hr M0 MC zM;have C6:=C6.c9;have M0:(F1 sP (λ o=>match o with
  |B2=>W1 ()
  |E0 p=>F1 (XC FZ T ih tc p.1 O0) λ e1=>F1 (P5 (cE g cl k L X5) e1) λ x=>F1 (Mq r x) λ _=>F_ (cE g cl k L X5) tc p.2 r O0) R1).P1 P X:=M0
 have fW:∀b,xG W b->zE N0 L W b:=λ b q=> .L2 q;have fL:∀b,C5 N0 L b->zE N0 L W b:=λ b q=> .S2 q;have yj:∀{G:Gh}{h:O1}{D:C1->Prop}{O0:PV},T5 B N0 D O0 G h->s8 B G h LA:=λ er=>by
  obtain⟨m,⟨o,es,ep,e,r⟩,_⟩:=dU;exact⟨dP.1,dP.2.1,dP.2.2,o,e⟩
 have mQ:∀{G:Gh}{h:O1}{D:C1->Prop}{O0:PV},T5 B N0 D O0 G h->∃m,aH LA m:=λ er=>by obtain⟨m,h,_⟩:=dU;exact⟨m,h⟩
 have Rv:∀{G1 G2:Gh}{s1 s2:D1},Z2 B N2 G1 s1 G2 s2->s8 B G1 pE LA->(∃m,s1.eZ LA m)->∃m,s2.eZ LA m:=λ{G1 G2 s1 s2} st ap ⟨m,hm⟩=>by
  obtain⟨o,Da,ep,e',d',_⟩:=id hm;exact⟨m,Cn hm λ o' e2=>B00 e2 ap.s9 (λ q=>q) ap.z (by rw[e']at e2;obtain O:=H3 e2;rw[d'];intro vs q;contradiction)⟩
 have err:∀{G1:Gh}{s1:D1}{yH:PV}{D:C1->Prop}{e:K0}{s2:D1},Z2 B (zE N0 L W) G s G1 s1->T5 B N0 D yH G1 pE->Px B N2 A G1 s1 X e s2->pL R2 A N0 (λ e s'=>R (.ID e) s') e s2:=λ{G1 s1 yH D e s2} st A9 px=>by
  obtain⟨G2,i,I2,g2,xi,hX⟩:=px;obtain⟨L0,e0,VK,y8,hf,WG⟩:=es.DD;have ap2:=(yj A9).J6 I2;have ns2:=Rv I2 (yj A9) (mQ A9);exact bY g2 xi y8 hf (λ s3 kC tb=>zM _ _ ⟨⟨G2,i,(WN (kL λ b q=>P6)).V2 (kC.2.D5 λ _ q=>P6),kC.1,xi,tb,hX,ap2.J6 kC.2⟩,Rv kC.2 ap2 ns2⟩) O WG
 refine uL0 (Zj es.nZ gd ia kz ht M0 (λ s1 D2 g1 hf=>?_) λ s1 p u a' D2 g1 ru pa Mv hf=>?_)
 ·have A9:=w_ D2 ie D_;exact MC s1 ⟨⟨G,bC fW,g1,hf,yj A9⟩,mQ A9⟩
 ·obtain⟨O,O⟩:z6=[]/\tc=cT L (cE g cl k L) P4:=hif.HB id λ q=>by rw[q]at hf;exact hf.HB
  refine⟨O,?_⟩;have A9:=w_ D2 ie D_;have kQ:=bC fW;have Xe:xH B G pE N0 W:=kP.J6 D2;have V1:U4 B (yE B N0 D0) (C5 N0 L) A (XC FZ T ih (cT L (cE g cl k L) P4) p O0) (AK P4 N0 u) G s1:=by
   have md:∀{D':C1->Prop}{m:M PV}{t':X7 S7},(∀y,D' y->D0 y)->U4 B (yE B N0 D') (C5 N0 L) A m t' G s1->U4 B (yE B N0 D0) (C5 N0 L) A m t' G s1:=λ hD h P X M0=>
    U3 (h P X M0) (λ _ _ ⟨G2,a,I2,g2,Q6,hp⟩=>⟨G2,a,I2,g2,T5.Au Q6 hD,hp⟩) λ _ _ px=>px
   rcases nt with⟨x,px,O⟩|⟨e,j,px,O⟩
   ·refine md (λ y hy=>?_) (I50 Ch g1 A9 ru);rcases sR y hy.1 with q|q
    ·exact q
    ·exact T3 (lT q) hy.2
   ·refine md (λ y hy=>?_) (F90 es.nZ Ch g1 A9 ru);rcases sR y hy.1 with q|q
    ·exact q
    ·exact T3 q hy.2
  have hf1:=R50 nt (j6 hf) (X':=λ _ _=>I6);refine U3 (V1 _ _ hf1) (λ _ s2 ⟨G2,T8,I2,g2,Q6,DS⟩=>?_) λ _ _ ⟨_,_,_,_,_,h⟩=>V4;have V9:=af (kL fL);have Xb:F5 B n A N0 L T8 G2 s2:=⟨C6,es,g2,Q6⟩;refine U3 ((HE (k:=k) (e:=X5) Xb).q8 DS λ G3 s3 x w S5 g3 rx AN=>?_) (λ _ _ h=>h) λ e s' px=>err V9 Q6 px;have hr3:r<y_.n:=U8 hr (W6 GB0 S5.je);have tH:G3.ρ r=Y2 r:=(S5.BE r (U8 hr GB0)).V2 (V9.BE r hr);rw[<-tH];refine NM0 g3 hr3 rx AN λ G4 s4 sA g4 hf4=>?_;have S50:=Yn sA;have Sv:Z2 B (C5 N0 L) G s1 G4 s4:=NP (S50.D5 λ _ q=>P6);have Ak:Z2 B (zE N0 L W) G s G4 s4:=af (Sv.D5 fL);have ns4:=Rv S50 (yj Q6) (mQ Q6);have cne:∀y c,jF y=E0 c->¬zE N0 L W c:=λ y c hc q=>by
   rcases q with(q|⟨x,hx,_⟩)|q
   ·obtain⟨u,o,e,d⟩:=OX y c hc;obtain⟨m,⟨o',_,_,e',d',_⟩,_⟩:=dU;rw[q,e']at e;obtain O:=H3 e;rw[d']at d;contradiction
   ·exact sW x hx
   ·exact D_ y c hc q
  have sY:=er.reset hkl Ak cne ns4;have wok4:xH B G4 QB0 N0 W:=Xe.J6 Sv;have ia4:wG G4 QB0 a' v W:=MB0 Sv λ b hb=>⟨NB0 b hb,OB0 b hb⟩;have PM0:G4.ρ r=G3.ρ r:=sA.BE r hr3;rw[<-PM0];exact HL (.S2 ⟨O,O⟩) sW sR hkl nt C6 es g4 sY ia4 wok4 (λ q=>ht (pa▸q)) (U8 hr Ak.je) hf4 (λ s' h=>MC s' (OJ Ak)) λ e s' h=>zM e s' (OJ Ak)
end
end
section
open PyProof.Rows
variable{B:Bs}{A:Around}{G G':Gh}{s s':Shared}{F:Addr->Prop}{FZ:Nat->Bool}
variable{g:Nat->Option PV}{cl:Nat->Nat}{n:Nat}{ih:B5}{T:Tab}{cenv:Env}{L:Kinds}{env:PV}{k:Nat}
theorem T50{K3:YN}{w:M4}{a:It}{I:H1}{Q E:K0->D1->Prop}(x:sC G W0 a I)(h:Q (.J0 I) s):V0 (T4 K3 w) A (C_ (.J0 I)) Q E s:=by
 cases a using JP with
 |V5 l=>obtain⟨R4,j,vs,m,C7,_⟩:=x;exact wpAny_pyIter_tupleiter C7 h
 |zF i j=>exact wpAny_pyIter_listiter x.2 h
 |_=>exact bD
theorem QM0{K3:YN}{w:M4}{a:It}{v:K0}{W:P0 H1}{Q E:K0->D1->Prop}(x:wG G W0 a v W)(h:Q v s):V0 (T4 K3 w) A (C_ v) Q E s:=by
 cases a using JP with
 |V5 l=>obtain⟨I,O,_,x⟩:=x;exact T50 x h
 |zF i j=>obtain⟨I,O,_,x⟩:=x;exact T50 x h
 |dG a m=>obtain⟨I,O,_,x⟩:=x;exact wpAny_pyIter_rangeiter x h
 |r8 a b=>obtain⟨z,TI,TO,i1,i2,x,y,O,_,_,_,_,hz,_⟩:=x;exact wS0 hz h
 |JE m a=>
  obtain⟨e,i1,L8,O,_,he,_⟩:=x;have hT:aC (.J0 e) "enumerate":=⟨_,he,O⟩;refine ls hT la (TC la hT K80 ?_ (J80 _));show V0 _ _ (U1 (.J0 e)) _ _ _;exact E2 ⟨_,O,"enumerate",_,hT,B80,h⟩
structure xZ(B:Bs)(A:B6)(G:Gh)(s:D1)(C:H1)(G':Gh)(s':D1):Prop where
 st:Z2 B N2 G s G' s'
 gd:J1 B A G' s'
 Jv:s8 B G' T6 C
 OB:E3 C=H0
 ns:∃m,yf C m
theorem xZ.be{C:H1}{h':O1}(x:xZ B A G s C G' s')(g0:J1 B A G s)(hs:TA C T6 h'):J1 B A G' {s' with A3:=h'}/\Z2 B N2 G s G' {s' with A3:=h'}:=
 J1.be g0 x.gd x.st x.Jv x.OB (λ o e=>by
  obtain⟨m,o',es,ep,e',d,_⟩:=x.ns;rw[e']at e;obtain O:=H3 e;exact⟨es,ep,d⟩) hs
theorem RM0{z6:P0 v0}{f:v0->C}{t:C}:(z6=[]/\xU (Q8 f z6) t=t)\/xU (Q8 f z6) t=.M2:=by
 cases z6 using c5 with
 |B0=>exact .S2 ⟨O,O⟩
 |A0 e r=>
  refine .L2 ?_;cases hs:P8 e with
  |I0=>rw[Ij hs];rfl
  |R0=>rw[Jj hs];rfl
theorem U50(BF:R7 B g)(HE:x7 B g cl n ih)(HL:rY B g cl n ih)(X:F5 B n A N0 L O0 G s){X5 P4 it:v0}{z6:P0 v0}{sc:BB}{C2:Q3}(co:lQ L sc P4){P:PV->K1->Prop}{Q:C0->K1->Prop}
  (M0:(F1 (FQ ih O0 (cI (cE g cl k L) L it)) (λ a=>kA 71 (wU a (cT u5 (cE g cl k u5) P4)) (F1 (Q9 (.M1 .B0)) λ r=>F1 (w5 71 (CY r)) λ i=>F1 (F_ (cE g cl k u5 X5) (xU (Q8 (cE g cl k u5) z6) (cT u5 (cE g cl k u5) P4)) a i O0) λ _=>W1 r)) R1).P1 P Q)
  {cs:P0 (C1×H1)}(UF:∀x c,jf x=E0 c->jF x=E0 c)(qN:∀y∈u5,y.2=.i7->∃c,jf y.1=E0 c){RR:K0->H1->tL->D1->Prop}
  (MC:∀C M3 G' s' i,xZ B A G s C G' s'->F3 G' T6 (.J0 i) M3->P (.J0 i) tF->RR M3 C (.ok .W4) s')
  (zM:∀C M3 G' s' i e,xZ B A G s C G' s'->rG G' i e->qM G' T6 i->Q i tF->RR M3 C (.ID e) s'):
  V0 R2 A (M5 it N0) (λ x s1=>V0 R2 A (C_ x) (λ v s2=>V0 R2 A (WR []) (λ M3 s3=>V0 R2 A (ub sc PL cs [] N0.qB H0 .H0 (E0 N0)) (λ qV s4=>
   FC R2 A (.compStart (.NB X5 [⟨P4,it,z6,0⟩] sc C2) 0 v M3 {qV with Z8:=relabel sc N0}) (RR M3 qV.Wp) s4) (Px B N2 A G s Q) s3) (Px B N2 A G s Q) s2) (Px B N2 A G s Q) s1) (Px B N2 A G s Q) s:=by
 refine G50 BF HE X M0 λ G1 s1 l h' tk a v W D2 g1 hk hW hl gw ia oA hf=>?_;obtain⟨ht,hf⟩:=TX hf;have hf:(F1 (F_ (cE g cl k u5 X5) (xU (Q8 (cE g cl k u5) z6) (cT u5 (cE g cl k u5) P4)) a PH O0) (λ _=>W1 (.J0 PH)) (G1.pi (.M1 .B0))).P1 P Q:=hf;have av:EL G1 pE (l++iD) h':=Cd hk λ b hb=>hW b (hl b hb);have A9:=VL D2;have Ov:T5 B N0 D0 O0 (jN (l++iD)) h':=A9.kW av hk;have sW:∀y∈u5,y.2≠.l6:=λ y hy q=>by
  rcases(Ve y hy).2 with h|h|h
  ·rw[h.1]at q;contradiction
  ·rw[h.1]at q;contradiction
  ·rw[h.1]at q;contradiction
 have V50:∀x,UC x≠E0 .l6:=λ x q=>sW _ (FU q) O;refine DH ?_ (by show 0<=XA;exact MN _);obtain⟨g2,I2,r2⟩:=gw.WR (l:=.B0) (vs:=[]) (tk:=tk) (k:=0) O;refine wpAny_newFunctionEnv sW (by intro y hy;simp at hy) (λ h3 Bk Tv=>?_) Oz;dsimp only at Bk Tv ⊢;generalize hC:(Uf {O2:=.U0 "list",H2:=H0,L3:=.V5 ([]:P0 K0).N8}).SC.L9=C at Bk Tv ⊢;have hCs:C=IB+1:=by rw[<-hC,TD]
 have k3:∀b o,(Uf {O2:=.U0 "list",H2:=H0,L3:=.V5 ([]:P0 K0).N8}).W5 b=E0 o->h3.W5 b=E0 o:=λ b o e=>Tv.sK b o (by rw[<-hC];exact WC (o9 e)) (rA _ _ _ _ e);obtain⟨g3,S5⟩:=vA0 (h':=h3) (tk:=tk) k3;have hC1:FJ C=H0:=by
  cases e:FJ C with
  |H0=>rfl
  |E0 o=>
   have:=o9 (hk C o e);rw[hCs]at J2;exact T3 J2 (sb (LN _))
 have hC0:E3 C=H0:=by
  cases e:E3 C with
  |H0=>rfl
  |E0 o=>obtain⟨o',e'⟩:=g00 C o e;rw[hC1]at e';contradiction
 have hCW:C∉W:=λ q=>by
  obtain⟨o,e⟩:=(oA C q).e9;have:=o9 e;rw[hCs]at J2;exact T3 J2 (sb (LN _))
 have apC:s8 B ((jN (l++iD)).OB (.M1 .B0) IB) h3 C:=FX g2 (by rw[<-hC];exact A8 _) (by obtain⟨o,_,_,e,_⟩:=Bk;exact⟨o,e⟩);have mD:=NP S5;have nD:=Ov.RZ (s:={s1 with A3:=h',y3:=tk}) mD;have erc:=MM0 (cs:=cs) (C:=C) co II UF qN nD apC ⟨_,Bk⟩;have ia3:=ia.J6 (s:={s1 with A3:=h',y3:=tk}) mD λ b hb=>⟨oA b hb,λ q=>q⟩;have wok3:xH B ((jN (l++iD)).OB (.M1 .B0) IB) h3 (PP sc cs C N0) W:=by
  refine⟨λ b hb=>(oA b hb).J6 (s:={s1 with A3:=h',y3:=tk}) mD,hCW,λ y c hc q=>?_⟩;obtain⟨u,o,e,_⟩:=A9.Si y c (UF y c hc);rw[hW _ q]at e;contradiction
 have hF:∀b,zE (PP sc cs C N0) u5 W b->N2 b\/FJ b=H0:=λ b q=> .L2 (by
  rcases q with(q|⟨x,hx,_⟩)|q
  ·rw[q];exact hC1
  ·exact T3 hx (V50 x)
  ·exact hW b q)
 have N6:∀{G' s'},Z2 B (zE (PP sc cs C N0) u5 W) ((jN (l++iD)).OB (.M1 .B0) IB) {s1 with A3:=h3,y3:=tk} G' s'->J1 B A G' s'->s8 B G' T6 C->(∃m,yf C m)->xZ B A G s C (jz iD) s':=λ{G' s'} st g ap ns=>by
  have stt:=(mD.D5 (F':=zE (PP sc cs C N0) u5 W) λ _ q=>P6).V2 st;have Gd:=Qy (s:=s1) hk (λ b hb=>hW b (hl b hb)) stt hF;exact⟨AC Gd,g.SG λ b hb=>by rw[stt.IU];exact OZ _ hb,ap.kW,hC0,ns⟩
 have loop:FC R2 A (.Bm (.NB X5 [⟨P4,it,z6,0⟩] sc C2) 0 v (.J0 IB) (PP sc cs C N0)) (RR (.J0 IB) C) {s1 with A3:=h3,y3:=tk}:=by
  have hr:PH<((jN (l++iD)).OB (.M1 .B0) IB).σ.n:=rD _;have tH:((jN (l++iD)).OB (.M1 .B0) IB).ρ PH=IB:=w3 O;have:=HL (k:=k) (X5:=X5) (iI:=it) (sc:=sc) (C2:=C2) (R:=RR (.J0 IB) C) (P:=λ _ σ=>(W1 (sA0 PH) σ).P1 P Q) (X:=Q) RM0 V50 co.F0 (λ x q=>O50 co II q) co.nt aD (LM0 co SB) g3 erc ia3 wok3 (L50 ht) hr (j6 hf)
   (λ s' he=>by
    obtain⟨⟨G',st,g',hp,ap⟩,ns⟩:=he;refine MC C _ (jz iD) s' PH (N6 st g' ap ns) ⟨U8 hr xT.n,?_⟩ hp;show w6 IB=.J0 (xe PH);rw[b_ _ hr,tH])
   (λ e s' he=>by
    obtain⟨⟨G',i,st,g',xi,tb,hx,ap⟩,ns⟩:=he;exact zM C _ (jz iD) s' i e (N6 st g' ap ns) xi.kW tb hx)
  rw[tH]at J2;exact J2
 exact codeAny_compStart_list loop (QM0 ia3 loop)
theorem W50{X5 P4 it:v0}{z6:P0 v0}{sc:BB}{C2:Q3}:clausesOf (.NB X5 [⟨P4,it,z6,0⟩] sc C2)=⟨P4,it,z6,0⟩::[]:=O
theorem X50(co:lQ L sc P4)(X:F5 B n A N0 L O0 G s){sc':BB}:∃cs:P0 (C1×H1),Zl sc N0=J4 cs/\(∀x c,jf x=E0 c->jF x=E0 c)/\∀y∈u5,y.2=.i7->∃c,jf y.1=E0 c:=
 N50 λ y hy q=>by
  rcases(Ve y hy).2 with h|h|h
  ·rw[h.1]at q;contradiction
  ·exact X.Jo _ (SB.l6 _ h.2.1)
  ·rw[h.1]at q;contradiction
theorem Y50{C:H1}{i:C0}{e:K0}{Q:C0->K1->Prop}(g0:J1 B A G s)(x:xZ B A G s C G' s')(xi:rG G' i e)(tb:qM G' T6 i)(hx:Q i tF){F':H1->Prop}{h':O1}(hs:TA C T6 h'){qV:o6}{α:Type}:
  V0 R2 A (EW0 "comprehension.variables-let-go" e qV:X7 α) (λ _ _=>I6) (Px B F' A G s Q) {s' with A3:=h'}:=by
 obtain⟨g1,D2⟩:=x.be g0 hs;obtain⟨c,d,vs,Tb,hv,h1⟩:=tb;have Ed:=xi;obtain⟨hi,O,_,c0,d0,uI⟩:=Ed;have Y6:xe i≠C:=λ q=>x.Jv.s9 ⟨i,hi,by rw[uI];simp,q⟩;have hv':C3 (xe i)=E0 ⟨c,d,.R5 vs,#[]⟩:=cW _ _ Y6 hv;refine S0 (M7 (s:={s' with A3:=h'}) hv' O h1 ?_);have N6:V0 R2 A (Ge (.J0 (xe i)) qV.DD>>=λ _=>(throw (.J0 (xe i)):X7 α)) (λ _ _=>I6) (Px B F' A G s Q) {s' with A3:=h'}:=
  S0 (YQ g1 xi λ N7 kC=>kZ ⟨G',i,(bC λ _ q=>P6).V2 (kC.2.D5 λ _ q=>P6),kC.1,xi,hx⟩)
 first
  |exact N6
  |exact S0 (E2 N6)
theorem SM0(BF:R7 B g)(HE:x7 B g cl n ih)(HL:rY B g cl n ih)(X:F5 B n A N0 L O0 G s){X5 P4 it:v0}{z6:P0 v0}{sc:BB}{C2:Q3}(hc:JQ L sc P4=I0):
  U4 B RV N2 A (Jq ih (cE g cl k u5 X5) (cT u5 (cE g cl k u5) P4) (Q8 (cE g cl k u5) z6) (cI (cE g cl k L) L it) O0) (M5 (.NB X5 [⟨P4,it,z6,0⟩] sc C2) N0) G s:=by
 intro P Q M0;have co:=M50 hc;obtain⟨cs,Pz,UF,qN⟩:=X50 (sc':=sc) co X;have dQ:(F1 (FQ ih O0 (cI (cE g cl k L) L it)) (λ a=>kA 71 (wU a (cT u5 (cE g cl k u5) P4)) (F1 (Q9 (.M1 .B0)) λ r=>F1 (w5 71 (CY r)) λ i=>F1 (F_ (cE g cl k u5 X5) (xU (Q8 (cE g cl k u5) z6) (cT u5 (cE g cl k u5) P4)) a i O0) λ _=>W1 r)) R1).P1 P Q:=M0;refine JS0 (Yo:=H0) W50 (λ x=>Av dQ x) Pz Oz (λ y hy q=>?_) (U50 (C2:=C2) BF HE HL X co dQ UF qN (λ C M3 G' s' i ce ra hp=>?_) λ C M3 G' s' i e ce xi tb hx=>?_)
 ·rcases(Ve y hy).2 with h|h|h
  ·exact h.2
  ·rw[h.1]at q;contradiction
  ·rw[h.1]at q;contradiction
 ·obtain⟨m,hm⟩:=Qz;refine⟨m,hm,λ h' hs=>?_⟩;obtain⟨g1,D2⟩:=ce.be VB hs;exact .at (R:=RV) (a:=.J0 i) D2 g1 ra hp
 ·obtain⟨m,hm⟩:=Qz;exact⟨m,hm,λ h' hs qV _=>Y50 VB ce xi tb hx hs⟩
end
section
open PyProof.Rows
variable{B:Bs}{A:Around}{G G':Gh}{s s':Shared}{F:Addr->Prop}{FZ:Nat->Bool}
variable{g:Nat->Option PV}{cl:Nat->Nat}{n:Nat}{ih:B5}{T:Tab}{cenv:Env}{L:Kinds}{env:PV}{k:Nat}
theorem TM0(ES:j9 N0 L):∀{prs:P0 (C1×K0)}{G:Gh}{s:D1}{Q:S7->D1->Prop}{E:K0->D1->Prop},J1 B A G s->T5 B N0 (λ y=>D0 y\/y∈jA0 (·.1)) O0 G W0->
  (∀p∈prs,w4 p.1=I0/\x6 L p.1=I0/\∃q,H4 (vc p.1) O0=E0 q/\F3 G W0 q p.2)->(∀s',Z2 B (C5 N0 L) G s G s'->J1 B A G s'->T5 B N0 D0 O0 G T6->Q () s')->
  V0 R2 A (ac (jA0 λ p=>lW N0 p.1) (jA0 (·.2))) Q E s:=by
 intro zq;induction zq with
 |B0=>
  intro G s Q E gd er hp h;exact E2 (h s (.L5 ..) gd (er.Au λ y hy=>by simpa using hy))
 |A0 pq r ih=>
  intro G s Q E gd er hp h;obtain⟨x,v⟩:=pq;obtain⟨h1,h2,q,hq,rq⟩:=hp (x,v) (TE ..);show V0 R2 A (QH (rP (·.2)) (lW N0 x v)>>=λ _=>ac (rP λ p=>lW N0 p.1) (rP (·.2))) Q E s;refine S0 (z7 (v80 (aV ES gd er h1 h2 rq (λ b q=>q) λ s' st g' yG=>?_)));have Q6:T5 B N0 (λ y=>D0 y\/y∈rP (·.1)) O0 G T6:=by
   have Bg:∀y,H4 y (z5 (vc x) q O0)=H4 y O0:=λ y=>by
    rw[WD];by_cases hy:y=vc x
    ·rw[w3 hy,hy,hq]
    ·rw[u3 hy]
   obtain⟨m,hn,hm⟩:=yG.ns;refine⟨⟨m,hn,λ y w h1 h2 h3 h4=>hm y w h1 (λ d=>h2 ?_) h3 (by rw[Bg];exact h4)⟩,λ y w h1 h3 h4=>yG.l6 y w h1 h3 (by rw[Bg];exact h4),yG.Si,yG.jU,yG.TP,yG.Ac,yG.Gs,yG.YA⟩;obtain⟨d,Y6⟩:=d;rcases d with d|d
   ·exact .S2 d
   ·rcases dA d with d|d
    ·exact T3 d Y6
    ·exact .L2 d
  exact ih g' Q6 (λ p Ss=>by obtain⟨a,b,q,hq,rq⟩:=hp p (yB _ Ss);exact⟨a,b,q,hq,rq.J6 st⟩) λ N7 QA qJ UM0=>h N7 (WN QA) qJ UM0
theorem VM0{ts:P0 v0}{l e:PV}(a:UT L ts l O0 e):∀{vs:P0 K0}{G:Gh}{h:O1},A4 G h l vs->
  (UA U7).L7=Q7/\(∀y,vc y≠0->y∉UA U7->H4 (vc y) e=H4 (vc y) O0)/\((UA U7).GD->∀p∈(UA U7).r8 vs,w4 p.1=I0/\x6 L p.1=I0/\∃q,H4 (vc p.1) e=E0 q/\F3 G h q p.2):=by
 induction a with
 |B0=>intro vs G h r;have r:vs=[]:=r;subst r;exact⟨O,λ _ _ _=>O,λ _ p hp=>(nomatch hp)⟩
 |A0 x C2 ts p q O0 e h1 h2 _ ih=>
  intro vs G h ⟨v,nC,ev,rp,rq⟩;subst ev;obtain⟨i2,i3,i4⟩:=ih rq;obtain⟨_,_,n3⟩:=xK h1;show(x::UA U7).L7=_/\(∀y,_->y∉x::UA U7->_)/\((x::UA U7).GD->∀pr∈(x,v)::(UA U7).r8 nC,_);refine⟨G6 HH i2,λ y hy hn=>?_,λ nd pr Jd=>?_⟩
  ·rw[qD,kN]at hn;rw[i3 y hy hn.2,WD,u3 λ q=>hn.1 (cO q hy)]
  ·rw[CP]at nd;rcases dA Jd with O|Jd
   ·exact⟨h1,h2,p,by rw[i3 x n3 nd.1,WD,w3 O],rp⟩
   ·exact i4 nd.2 pr Jd
theorem WM0{α β:Type}{f h:α->Q1 β}(hf:∀a b,f a=E0 b->h a=E0 b):∀{l:P0 α},(l.UV f).L7=HJ->l.UV f=l.UV h:=by
 intro zq;induction zq with
 |B0=>
  intro _;exact O
 |A0 a r ih=>
  intro e;have iH:∀l:P0 α,(l.UV f).L7<=HJ:=λ l=>P0.length_filterMap_le f l;cases ha:f a with
  |H0=>
   rw[P0.filterMap_cons_none ha]at e;have:=iH r;rw[e,EJ]at J2;omega
  |E0 b=>
   rw[H80 ha]at e ⊢;rw[H80 (hf a b ha),ih (by simpa using e)]
theorem XM0:∀{l:P0 C1},iG l=I0->l.GD:=by
 intro zq;induction zq with
 |B0=>
  intro _;exact vb
 |A0 x r ih=>
  intro h;have h:(!(r.K4 (· ==x))&&iG r)=I0:=h;simp only[N5,yO,u80,DU]at h;exact CP.B8 ⟨λ q=>h.1 x q O,ih h.2⟩
theorem YM0(ts vs:P0 v0)(j j':C0)(p p':Q3):∃(nm:v0->Q1 C1) (sd:v0->I1),QW [.P9 ts j p] (.P9 vs j' p') N0=(do
   if !(UN==2||UN==3)||Q7 !=UN||S90 !=.pF then return H0
   if vs.K4 sd then return H0
   if(UA nm).L7 !=UN||(UA nm).eraseDups.L7 !=(UA nm).L7 then return H0
   if tm (foldedForSure 8)then return H0
   if tm (kt 8)then T90 "assign.tuple-of-constant-expressions:order-of-the-stores"
   return E0 (UA nm))/\∀a x,nm a=E0 x->U7 a=E0 x/\zA x=E0 .F7:=by
 refine⟨_,_,O,λ a x h=>?_⟩;have q:=Lh a;cases a using Z9 with
 |Z3 y p=>
  have h:(if(zA y==E0 .F7&&u_==(CV0 (·.C2.UH)).gI 0)=I0 then E0 y else H0)=E0 x:=h;by_cases hc:(zA y==E0 .F7&&u_==(CV0 (·.C2.UH)).gI 0)=I0
  ·rw[w3 hc]at h;obtain O:=H3 h;rw[N5]at hc;exact⟨O,YD hc.1⟩
  ·rw[u3 hc]at h;contradiction
 |_=>contradiction
theorem ZM0{ts vs:P0 v0}{j j':C0}{p p':Q3}(h:(!(tm (kt 8)))=I0):QW [.P9 ts j p] (.P9 vs j' p') N0=J4 H0\/
  ∃nm:v0->Q1 C1,QW [.P9 ts j p] (.P9 vs j' p') N0=J4 (E0 (UA nm))/\(UA nm).L7=UN/\∀a x,nm a=E0 x->U7 a=E0 x/\zA x=E0 .F7:=by
 have h8:tm (kt 8)=R0:=by simpa using h
 obtain⟨nm,sd,e,hn⟩:=YM0 (N0:=N0) ts vs j j' p p';rw[e]
 split
 ·exact .S2 O
 ·split
  ·exact .S2 O
  ·split
   ·exact .S2 O
   ·rename_i bH
    split
    ·exact .S2 O
    ·rw[h8];rw[hU0,xU0,Nz,kN,f90.not_not]at bH;exact .L2 ⟨nm,O,bH.1,hn⟩
def Kd(e:v0):I1:=match e with
 |.P9 ..=>I0
 |_=>R0
def Uv(e:v0):I1:=match e with
 |.P0 ..=>I0
 |_=>R0
theorem aM0{t e:v0}(h:Kd t=R0)(hl:Uv t=R0):QW [t] e N0=J4 H0:=by cases t using Z9<;>first|rfl|(contradiction;done)|(cases hl;done)
theorem bM0{ts:P0 v0}{j:C0}{p:Q3}{e:v0}(h:Kd e=R0):QW [.P9 ts j p] e N0=J4 H0:=by cases e using Z9<;>first|rfl|contradiction
inductive Vv:v0->I1->Prop
 |no e:Vv e R0
 |E6 ts j p:Vv (.P9 ts j p) I0
theorem Z50(e:v0):Vv e (Kd e):=by cases e using Z9<;>first|exact .E6 _ _ _|exact .no _
theorem cM0{t e:v0}(h:mK t e=I0)(hl:Uv t=R0):QW [t] e N0=J4 H0\/
  ∃ts j p,t=.P9 ts j p/\QW [t] e N0=J4 (E0 (UA U7))/\∀x∈UA U7,zA x=E0 .F7:=by
 symm;have q1:=Z50 t;generalize h1:Kd t=b at q1;cases q1 with
 |no=>
  ext;exact .S2 (aM0 h1 hl)
 |E6 ts j p=>
  have q2:=Z50 e;generalize h2:Kd e=b at q2;cases q2 with
  |no=>
   ext;exact .S2 (bM0 h2)
  |E6 vs j' p'=>
   rcases ZM0 (ts:=ts) (j:=j) (p:=p) (j':=j') (p':=p') (N0:=N0) h with q|⟨nm,q,bH,a50⟩
   ·ext;exact .S2 q
   ·have e1:UA nm=UA U7:=WM0 (h:=U7) (λ a b hab=>(a50 a b hab).1) bH;ext;refine .L2 ⟨ts,j,p,O,by rw[q,e1],λ x hx=>?_⟩;symm;rw[<-e1]at hx;obtain⟨a,_,ha⟩:=mS0 hx;ext;exact(a50 _ _ ha).2
theorem dM0{α β:Type}:∀{l:P0 α}{m:P0 β},HJ=m.L7->(l.r8 m).Y4 (·.1)=l/\(l.r8 m).Y4 (·.2)=m:=by
 intro l;induction l with
 |B0=>
  intro m h;obtain O:=EQ MJ;exact⟨O,O⟩
 |A0 a l ih=>
  intro m h;cases m using c5 with
  |B0=>contradiction
  |A0 b m=>
   obtain⟨h1,h2⟩:=ih (dZ h);exact⟨G6 (P0.A0 a) h1,G6 (P0.A0 b) h2⟩
theorem eM0{t:v0}{p:PV}{σ:K1}{P:PV->K1->Prop}{Q:C0->K1->Prop}(M0:(XC FZ T ih (cT L (cE g cl k L) t) p O0 σ).P1 P Q):Uv t=R0/\P8 t=I0/\(EU [t] N0).Y4 (·.2)=[AK t N0]:=by
 cases t using Z9<;>first|exact B4|exact⟨O,O,O⟩
theorem Ck(CT:XD B T)(ON:xE)(H:x7 B g cl n ih)(X:F5 B n A N0 L O0 G s){t e:v0}(ht:mK t e=I0)(hd:iG (YF t)=I0){p:PV}{v:K0}(r:F3 G W0 p v){P:PV->K1->Prop}{Q:C0->K1->Prop}
  (M0:(XC FZ T ih (cT L (cE g cl k L) t) p O0 R1).P1 P Q):
  V0 R2 A (do assignStores N0 v (<-QW [t] e N0) ((EU [t] N0).Y4 (·.2))) (λ f s'=>f=.W4/\Po B (yE B N0 D0) (C5 N0 L) A G s P () s') (Px B (C5 N0 L) A G s Q) s:=by
 obtain⟨hl,NC,he⟩:=eM0 (N0:=N0) M0;rcases cM0 (N0:=N0) ht hl with q|⟨ts,j,C2,O,q,sR⟩
 ·rw[q];refine S0 (E2 ?_);show V0 R2 A (do r90 v ((EU [t] N0).Y4 (·.2));J4 LJ.W4) _ _ s;rw[he];exact S0 (U3 (Iv CT ON H X r P Q M0) (λ _ s' po=>E2 ⟨O,po⟩) λ _ _ px=>px)
 ·rw[q];refine S0 (E2 ?_);show V0 R2 A (do
   rule "assign.swapped-stores"
   let G5 <-P90 v (UA U7).L7 H0
   ac ((UA U7).RL.Y4 λ n=>lW N0 n) G5.RL
   J4 LJ.W4) _ _ s
  refine S0 (KP ?_);obtain⟨pl,hp,M0⟩:=Gv M0;obtain⟨b,l,vs,O,Hv,rl⟩:=J50 VB r hp;obtain⟨ef,V1,hP,_⟩:=Fv M0;obtain⟨bH,b50,Vy⟩:=VM0 V1 rl;have nd:(UA U7).GD:=by rw[<-wL0 (j:=j) (C2:=C2)];exact XM0 hd
  have Vy:=Vy nd;obtain⟨z1,z2⟩:=dM0 bH;have un:V0 R2 A (P90 (.J0 l) (UA U7).L7 H0) (λ G5 s'=>G5=vs/\∃h',(∀b o,E3 b=E0 o->C3 b=E0 o)/\s'={s with A3:=h'}) (Px B (C5 N0 L) A G s Q) s:=by
   rw[bH,show Q7=vs.wT by simp];exact H50 cn Hv λ h' hk=>⟨by trivial,h',hk,O⟩
  refine S0 (U3 un (λ G5 s' zz=>vN zz λ e1 zz=>f_ zz λ h' hk e2=>?_) λ _ _ px=>px);subst e1;subst e2;obtain⟨g1,D2⟩:=X.Zn (h':=h') (tk:=X4) hk;have kQ:=bC (F':=C5 N0 L) λ _ q=>P6;have A9:T5 B N0 (λ y=>D0 y\/y∈((UA U7).r8 G5).RL.Y4 (·.1)) ef G h':=by
   have e0:=VL D2;obtain⟨m,hn,hm⟩:=e0.ns;have hmem:∀y,y∈((UA U7).r8 G5).RL.Y4 (·.1)↔y∈UA U7:=λ y=>by rw[xt,QU0,z1]
   refine⟨⟨m,hn,λ y w h1 h2 h3 h4=>hm y w h1 (λ d=>h2 (.S2 d)) h3 ?_⟩,λ y w h1 h3 h4=>e0.l6 y w h1 h3 ?_,e0.Si,e0.jU,e0.TP,e0.Ac,e0.Gs,e0.YA⟩
   ·rw[<-b50 y h3 λ q=>h2 (.L2 ((hmem y).B8 q))];exact h4
   ·rw[<-b50 y h3 λ q=>by
     rw[sR y q]at h1;rcases h1 with h1|h1<;>cases h1]
    exact h4
  have em:(UA U7).RL.Y4 (λ n=>lW N0 n)=((UA U7).r8 G5).RL.Y4 λ p=>lW N0 p.1:=by
   rw[xt,xt];congr 1;rw[<-z1,P0.map_map,z1];rfl
  have ev:G5.RL=((UA U7).r8 G5).RL.Y4 (·.2):=by rw[xt,z2]
  rw[em,ev];refine S0 (TM0 II g1 A9 (λ pr Jd=>?_) λ s' st g' yG=>E2 ⟨O,.at (R:=yE B N0 D0) (a:=ef) (af st) g' yG hP⟩);obtain⟨a1,a2,q,hq,rq⟩:=Vy pr (QU0.mp Jd);exact⟨a1,a2,q,hq,rq.J6 D2⟩
end
section
open PyProof.Rows
variable{B:Bs}{A:Around}{G G':Gh}{s s':Shared}{F:Addr->Prop}{FZ:Nat->Bool}
variable{g:Nat->Option PV}{cl:Nat->Nat}{n:Nat}{ih:B5}{T:Tab}{cenv:Env}{L:Kinds}{env:PV}{k:Nat}
def Wv(B:Bs)(g:C0->Q1 PV)(cl:C0->C0)(n:C0)(E:B5):Prop:=
 ∀{A:B6}{G:Gh}{s:D1}{N0:o6}{L:y5}{O0:PV}{k:C0}{X5:v0}{gs:P0 pk}{sc:BB}{C2 xp:Q3}{x:C1}{P:PV->K1->Prop}{Q:C0->K1->Prop},
  F5 B n A N0 L O0 G s->((w4 x&&x6 L x)=I0\/∀e σ,¬P e σ)->(E.A6 (cE g cl k L (.NB X5 gs sc C2)) O0 R1).P1 (λ p σ=>P (z5 (vc x) p O0) σ) Q->
  V0 R2 A (evalThenUse (.NB X5 gs sc C2) N0 (λ v=>r90 v [AK (.Z3 x xp) N0])) (Po B (yE B N0 D0) (C5 N0 L) A G s P) (Px B (C5 N0 L) A G s Q) s
theorem fM0(BF:R7 B g)(HE:x7 B g cl n ih)(HL:rY B g cl n ih):Wv B g cl (n+1) (J6 FZ T ih):=by
 intro A G s N0 L O0 k X5 gs sc C2 xp x P Q X1 iX M0;have X:=N00;have M0:(nE FZ T ih (cE g cl k L (.NB X5 gs sc C2)) O0 R1).P1 (λ p σ=>P (z5 (vc x) p O0) σ) Q:=M0;induction k using ML with
 |i9=>exact B4
 |c9 k=>
  cases hg:Ph gs with
  |H0=>
   have M0:(nE FZ T ih (AV (cE g cl k) L X5 gs sc) O0 R1).P1 (λ p σ=>P (z5 (vc x) p O0) σ) Q:=M0;unfold AV at M0;rw[hg]at M0;exact B4
  |E0 c=>
   obtain⟨P4,it,z6⟩:=c;have A5:(nE FZ T ih (bif JQ L sc P4 then .H7 (cE g cl k u5 X5) (cT u5 (cE g cl k u5) P4) (Q8 (cE g cl k u5) z6) (cI (cE g cl k L) L it)else .M2) O0 R1).P1 (λ p σ=>P (z5 (vc x) p O0) σ) Q:=by
    have M0:(nE FZ T ih (AV (cE g cl k) L X5 gs sc) O0 R1).P1 (λ p σ=>P (z5 (vc x) p O0) σ) Q:=M0;unfold AV at M0;rw[hg]at M0;exact M0
   obtain O:=D20 hg;cases hc:JQ L sc P4 with
   |R0=>rw[hc]at A5;exact SP
   |I0=>
    rw[hc]at A5;have M0:=A5;have M0:(Jq ih (cE g cl k u5 X5) (cT u5 (cE g cl k u5) P4) (Q8 (cE g cl k u5) z6) (cI (cE g cl k L) L it) O0 R1).P1 (λ p σ=>P (z5 (vc x) p O0) σ) Q:=M0;have co:=M50 hc;obtain⟨cs,Pz,UF,qN⟩:=X50 (sc':=sc) co X;have dQ:(F1 (FQ ih O0 (cI (cE g cl k L) L it)) (λ a=>kA 71 (wU a (cT u5 (cE g cl k u5) P4)) (F1 (Q9 (.M1 .B0)) λ r=>F1 (w5 71 (CY r)) λ i=>F1 (F_ (cE g cl k u5 X5) (xU (Q8 (cE g cl k u5) z6) (cT u5 (cE g cl k u5) P4)) a i O0) λ _=>W1 r)) R1).P1 (λ p σ=>P (z5 (vc x) p O0) σ) Q:=M0;have nm:∀{e:K0}{s':D1},Px B N2 A G s Q e s'->Px B (C5 N0 L) A G s Q e s':=λ⟨G2,i,I2,g2,xi,hp⟩=>⟨G2,i,kL λ _ q=>P6,g2,xi,hp⟩;refine S0 (U3 (Q:=λ _=>Po B (yE B N0 D0) (C5 N0 L) A G s P ()) (E:=Px B (C5 N0 L) A G s Q) ?_ (λ _ _ h=>E2 h) λ _ _ h=>h);refine JS0 (E:=Px B (C5 N0 L) A G s Q) (W50 (X5:=X5) (P4:=P4) (it:=it) (z6:=z6) (sc:=sc) (C2:=C2)) (λ x=>Av dQ x) Pz Oz (λ y hy q=>?_)
     (U3 (U50 (RR:=compPost R2 A (Px B (C5 N0 L) A G s Q) (E0 (λ v=>r90 v [AK (.Z3 x xp) N0])) (λ _=>Po B (yE B N0 D0) (C5 N0 L) A G s P ())) (C2:=C2) BF HE HL X co dQ UF qN (λ C M3 G' s' i ce ra hp=>?_) λ C M3 G' s' i e ce xi tb hx=>?_)
      (λ v1 s1 h1=>U3 h1 (λ v2 s2 h2=>U3 h2 (λ v3 s3 h3=>U3 h3 (λ v4 s4 h4=>h4) λ _ _=>nm) λ _ _=>nm) λ _ _=>nm) λ _ _=>nm)
    ·rcases(Ve y hy).2 with h|h|h
     ·exact h.2
     ·rw[h.1]at q;contradiction
     ·rw[h.1]at q;contradiction
    ·show V0 R2 A (AK (.Z3 x xp) N0 M3) _ _ s';have yG:=VL ce.st;have iX:(w4 x&&x6 L x)=I0:=iX.HB id λ q=>T3 hp (q _ _);simp only[N5]at iX;obtain⟨hx,hs⟩:=iX;refine f80 (aV II ce.gd yG hx hs ra (λ b q=>q) λ s2 I2 g2 Q6=>?_);obtain⟨m,hm⟩:=Qz;have Kv:¬C5 N0 L C:=λ q=>by
      rcases q with q|⟨y,_,hy⟩
      ·obtain⟨m,⟨o,_,_,e,_⟩,_⟩:=X.dU;rw[<-q,lz]at e;contradiction
      ·obtain⟨u,o,e,_⟩:=X.OX y C hy;rw[lz]at e;contradiction
     have Zo:s2.eZ C m:=by
      obtain⟨o,es,ep,e,d,_⟩:=id hm;exact Cn hm λ o' e'=>I2.L3 e' ce.Jv.s9 Kv ce.Jv.z (by rw[e]at e';obtain O:=H3 e';rw[d];intro vs q;contradiction)
     refine⟨m,Zo,λ h' uJ=>?_⟩;obtain⟨g3,S5⟩:=J1.be VB g2 ((ce.Dn (F':=C5 N0 L) λ _ q=>P6).V2 I2) (ce.Jv.J6 I2) lz (λ o e=>by
      obtain⟨o',es,ep,e',d,_⟩:=Zo;rw[e']at e;obtain O:=H3 e;exact⟨es,ep,d⟩) uJ
     have Y6:C≠LA:=λ q=>Kv (.S2 q);have nD:T5 B N0 D0 (z5 (vc x) (.J0 i) O0) G' h':=by
      have Q6:=Q6.Au (D':=D0) λ y hy=>hy.1;have kv:∀{p:PV}{v:K0},F3 G' IN p v->F3 G' h' p v:=λ r=>UI (.L5 G') λ b vs n _ e=>YL _ _ (λ q=>by
       subst q;obtain⟨o',es,ep,e',d,_⟩:=Zo;rw[e']at e;obtain O:=H3 e;contradiction) e
      have kc:∀{y c u},jF y=E0 c->s2.pd c u->a00 c u:=λ{y c u} hl ⟨o,e,d⟩=>⟨o,YL _ _ (λ q=>by
       subst q;obtain⟨u,o,e,_⟩:=X.OX y c hl;rw[lz]at e;contradiction) e,d⟩
      obtain⟨m',AM,dX⟩:=Q6.ns;exact⟨⟨m',AM.Te uJ (E9 Y6),λ y v h1 h2 h3 h4=>by obtain⟨u,hu,r⟩:=dX y v h1 h2 h3 h4;exact⟨u,hu,kv r⟩⟩,
       λ y v h1 h3 h4=>by obtain⟨c,u,hl,hc,r⟩:=Q6.l6 y v h1 h3 h4;exact⟨c,u,hl,kc hl hc,kv r⟩,λ y c hl=>by obtain⟨u,hu⟩:=Q6.Si y c hl;exact⟨u,kc hl hu⟩,Q6.jU,Q6.TP,Q6.Ac,Q6.Gs,Q6.YA⟩
     exact .at (R:=yE B N0 D0) (a:=z5 (vc x) (.J0 i) O0) S5 g3 nD hp
    ·obtain⟨m,hm⟩:=Qz;exact⟨m,hm,λ h' hs qV _=>Y50 VB ce xi tb hx hs⟩
end
section
open PyProof.Rows
variable{B:Bs}{A:Around}{G G':Gh}{s s':Shared}{F:Addr->Prop}{FZ:Nat->Bool}
variable{g:Nat->Option PV}{cl:Nat->Nat}{n:Nat}{ih:B5}{T:Tab}{cenv:Env}{L:Kinds}{env:PV}{k:Nat}
theorem Px.nm{Q:C0->K1->Prop}{e:K0}{s':D1}(h:Px B N2 A G s Q e s'):Px B F A G s Q e s':=by obtain⟨G2,i,I2,g2,xi,hp⟩:=h;exact⟨G2,i,kL λ _ q=>P6,g2,xi,hp⟩
theorem Xv{t e:v0}{UH:C0}(h:WM t e=I0):cv [t] e UH N0=J4 R0\/(cv [t] e UH N0=J4 I0/\(∃X5 gs sc C2,e=.NB X5 gs sc C2)/\∃x xp,t=.Z3 x xp):=by
 cases e using Z9 with
 |NB X5 gs sc C2=>
  cases t using Z9 with
  |Z3 x xp=>
   have e0:cv [.Z3 x xp] (.NB X5 gs sc C2) UH N0=J4 (S90==.pF&&zA x==E0 .F7&&xp.UH==(v0.NB X5 gs sc C2).C2.UH&&!(u5.K4 λ(n,k)=>n==x&&(k==.F7||k==.l6))):=O;rw[e0];cases(S90==.pF&&zA x==E0 .F7&&xp.UH==(v0.NB X5 gs sc C2).C2.UH&&!(u5.K4 λ(n,k)=>n==x&&(k==.F7||k==.l6)))using n7 with
   |I0=>exact .L2 ⟨O,⟨_,_,_,_,O⟩,_,_,O⟩
   |R0=>exact .S2 O
  |_=>exact .S2 O
 |KA0=>contradiction
 |v90=>contradiction
 |_=>exact .S2 O
noncomputable abbrev nO(B:Bs)(A:B6)(N0:o6)(L:y5)(m:M Fl)(st:P0 U5)(G:Gh)(s:D1):Prop:=U4 B (VE B N0) (C5 N0 L) A m (jC st N0) G s
theorem gM0(CT:XD B T)(ON:xE)(HE:x7 B g cl n ih)(HU:Wv B g cl n ih)(HS:sJ B g cl n ih)(X:F5 B n A N0 L O0 G s){t e:v0}{I4:P0 U5}{C2:Q3}{k1 k2 k3:C0}
  (h1:WM t e=I0)(h2:iG (YF t)=I0)(h3:mK t e=I0):nO B A N0 L (l10 FZ T ih (cT L (cE g cl k1 L) t) (cE g cl k2 L e) (cS g cl k3 L I4) O0) (.MF [t] e C2::I4) G s:=by
 intro P Q M0;have M0:(F1 (P5 (cE g cl k2 L e) O0) (λ v=>F1 (XC FZ T ih (cT L (cE g cl k1 L) t) v O0) λ R9=>ZC (cS g cl k3 L I4) R9) R1).P1 P Q:=M0;refine xA ?_;refine S0 (yA ?_);rcases Xv (N0:=N0) (UH:=a_) h1 with q|⟨q,⟨X5,gs,sc,p2,O⟩,x,xp,O⟩
 ·rw[q];refine S0 (E2 ?_);refine PI LG ?_;refine S0 (U3 ((HE X).q8 M0 λ G1 s1 a v D2 g1 ra D4=>?_) (λ _ _ h=>h) λ _ _ h=>jn)
  ·exact U3 (Ck CT ON HE (GC D2 g1) h3 h2 ra (j6 D4)) (λ f s2 ⟨hf,G2,T8,I2,g2,Q6,hp⟩=>by
    subst hf;exact(HS (k:=k3) (st:=I4) aD SB g2 Q6).H8 ((bC λ _ q=>P6).V2 I2) hp) λ e s2 px=>O00 (bC λ _ q=>P6)
 ·rw[q];refine S0 (E2 ?_);refine wif_pos O ?_;symm;change(F1 (P5 (cE g cl k2 L (.NB X5 gs sc p2)) O0) (λ v=>F1 (XC FZ T ih (bif w4 x&&x6 L x then .F0 (vc x)else .M2) v O0) λ R9=>ZC (cS g cl k3 L I4) R9) R1).P1 P Q at M0;cases hx:w4 x&&x6 L x with
  |R0=>
   rw[hx]at M0;have hu:=HU (xp:=xp) (x:=x) (P:=λ _ _=>I6) (Q:=Q) X (.L2 λ _ _ q=>q) (j6 M0);ext;exact S0 (U3 hu (λ _ s2 ⟨G2,T8,I2,g2,Q6,hp⟩=>J00) λ _ _ h=>h)
  |I0=>
   rw[hx]at M0;have hu:=HU (xp:=xp) (P:=λ R9 σ=>(ZC (cS g cl k3 L I4) R9 σ).P1 P Q) (Q:=Q) X (.S2 hx) (j6 M0);ext;refine S0 (U3 hu (λ _ s2 ⟨G2,T8,I2,g2,Q6,hp⟩=>E2 ?_) λ _ _ h=>h);exact(HS (k:=k3) (st:=I4) aD SB g2 Q6).H8 I2 hp
end
section
open PyProof.Rows
variable{B:Bs}{A:Around}{G G':Gh}{s s':Shared}{F:Addr->Prop}{FZ:Nat->Bool}
variable{g:Nat->Option PV}{cl:Nat->Nat}{n:Nat}{ih:B5}{T:Tab}{cenv:Env}{L:Kinds}{env:PV}{k:Nat}
theorem c50(X:F5 B n A N0 L O0 G s):sv N0=R0:=by
 unfold sv;rw[SB.fn];rfl
theorem hM0(HE:x7 B g cl n ih)(HS:sJ B g cl n ih)(X:F5 B n A N0 L O0 G s){e:v0}{I4:P0 U5}{C2:Q3}{k2 k3:C0}(hs:YV0 e H0 a_ N0=J4 R0):
  nO B A N0 L (F1 (P5 (cE g cl k2 L e) O0) λ _=>ZC (cS g cl k3 L I4) O0) (.v0 e C2::I4) G s:=by
 intro P Q M0;refine xA ?_;refine w80 ?_ (c50 X) hs;refine U3 ((HE X).q8 M0 λ G1 s1 a v D2 g1 ra D4=>?_) (λ _ _ h=>h) λ _ _ h=>jn;exact(HS (k:=k3) (st:=I4) aD SB g1 (VL D2)).H8 (bC λ _ q=>P6) D4
theorem iM0(HE:x7 B g cl n ih)(X:F5 B n A N0 L O0 G s){e:v0}{I4:P0 U5}{C2:Q3}{k2:C0}:
  nO B A N0 L (F1 (P5 (cE g cl k2 L e) O0) λ v=>W1 (.U1 v O0)) (.QK (E0 e) C2::I4) G s:=by
 intro P Q M0;refine xA (Kb ?_);refine U3 ((HE X).q8 M0 λ G1 s1 a v D2 g1 ra D4=>?_) (λ _ _ h=>h) λ _ _ h=>jn;exact⟨G1,.U1 a O0,bC λ _ q=>P6,g1,ra,D4⟩
theorem jM0(X:F5 B n A N0 L O0 G s){I4:P0 U5}{C2:Q3}:nO B A N0 L (W1 (.ZB O0)) (.qy C2::I4) G s:=λ P Q M0=>by
 refine xA ?_;exact S0 (yA (E2 ⟨G,.ZB O0,.L5 ..,VB,OR,M0⟩))
theorem kM0(X:F5 B n A N0 L O0 G s){I4:P0 U5}{C2:Q3}:nO B A N0 L (W1 (.YB O0)) (.nx C2::I4) G s:=λ P Q M0=>by
 refine xA ?_;exact S0 (yA (E2 ⟨G,.YB O0,.L5 ..,VB,OR,M0⟩))
set_option backward.match.sparseCases true in
theorem lM0(HT:cQ B g cl n ih)(HS:sJ B g cl n ih)(X:F5 B n A N0 L O0 G s){t:v0}{a b I4:P0 U5}{C2:Q3}{k1 k2 k3 k4:C0}:
  nO B A N0 L (sIf ih (cE g cl k1 L t) (cS g cl k2 L a) (cS g cl k3 L b) (cS g cl k4 L I4) O0) (.If t a b C2::I4) G s:=by
 intro P Q M0;have M0:(F1 (LC ih (cE g cl k1 L t) O0) (λ c=>F1 (RI c (ZC (cS g cl k2 L a) O0) (ZC (cS g cl k3 L b) O0)) λ f=>lK ih (cS g cl k4 L I4) f) R1).P1 P Q:=M0;refine xA (AA0 ?_);refine U3 ((HT X).q8 M0 λ G1 s1 c b' D2 g1 rb D4=>?_) (λ _ _ h=>h) λ _ _ h=>jn;cases rb;have kQ:=bC (F':=C5 N0 L) λ _ q=>P6;have A9:=VL D2;have KD:∀{k5:C0}{bl:P0 U5},(F1 (ZC (cS g cl k5 L bl) O0) (λ f=>lK ih (cS g cl k4 L I4) f) mF).P1 P Q->
   V0 R2 A (jC bl N0) (λ f s'=>match f with|.W4=>V0 R2 A (jC I4 N0) (Po B (VE B N0) (C5 N0 L) A G s P) (Px B (C5 N0 L) A G s Q) s'|f=>Po B (VE B N0) (C5 N0 L) A G s P f s') (Px B (C5 N0 L) A G s Q) s1:=λ{k5 bl} h=>by
  refine(HS (k:=k5) (st:=bl) aD SB g1 A9).IE kQ h λ G2 s2 fl f I2 V9 g2 rf A5=>?_;have N6:=Fd (k:=k4) HS aD SB I2 g2 rf A5;cases f<;>exact N6
 cases c using n7 with
 |I0=>exact KD D4
 |R0=>exact KD D4
end
section
section
noncomputable abbrev AF:P0 K0:=[.U0 "Exception",.U0 "BaseException",.U0 "object"]
structure XK where
 nm:C1
 q:C1
 C:H1
 N:H1
 bs:P0 K0
 sn:P0 C1
 w0:P0 K0
 ab:I1
 UJ:Q1 I1
 dd:Q1 H1
 k0:Q1 K0
 k1:Q1 K0
 k2:Q1 K0
 k3:Q1 K0
 k5:Q1 K0
 mN:C1->Q1 K0
structure vA(h:O1)(k l:XK):Prop where
 atC:B3 y4=E0 (IP k.nm k.q y4 k.N k.bs (.J0 lH::AF) I0 k.sn k.w0 k.ab k.UJ k.dd k.k0 k.k1 k.k2 k.k3 k.k5 "Exception.__new__")
 atL:B3 lH=E0 (IP l.nm l.q lH l.N l.bs AF I0 l.sn l.w0 l.ab l.UJ l.dd l.k0 l.k1 l.k2 l.k3 l.k5 "Exception.__new__")
 nc:aH k.N VG
 nl:aH l.N dH
theorem vA.JC{h h':O1}{k l:XK}(x:vA h k l)(kp:∀b o,B3 b=E0 o->C3 b=E0 o):vA h' k l:=
 ⟨kp _ _ x.atC,kp _ _ x.atL,by obtain⟨o,es,ep,e,r⟩:=x.nc;exact⟨o,es,ep,kp _ _ e,r⟩,by obtain⟨o,es,ep,e,r⟩:=Cg;exact⟨o,es,ep,kp _ _ e,r⟩⟩
theorem nQ{C L:H1}{x:U6}{bm:P0 K0}:(w6 C::.J0 L::bm).RG (.U0 x)=bm.RG (.U0 x):=by
 rewrite [Ps,Ps];rfl
noncomputable abbrev BJ(h:O1)(C:H1)(I4:P0 K0):O1:=(iN {O2:=.U0 "tuple",L3:=.V5 I4.N8}).y6 {O2:=.J0 C,L3:=.R5 #[.J0 l8,.H0,.H0,.H0,.N3 R0,.H0]}
section
variable{M:Model}{A:Around}{E:Value->Shared->Prop}{h:Heap}{g:Array GenState}{d:Drawn}{t:Nat}{os:OsState}{k l:XK}
theorem YT(X:vA h k l){W2:C1}{y:Q1 K0}{Q:Q1 K0->D1->Prop}(hB:MA (.U0 "Exception") W2=J4 y)(hq:Q ((VG W2).or ((dH W2).or y)) ⟨h,g,d,t,os⟩):
  V0 M A (MA (.J0 y4) W2) Q E ⟨h,g,d,t,os⟩:=by
 have ZU:U90 AF W2=J4 y:=by rw[wT0,ba.mroIs]at hB;exact hB
 rw[wT0];refine S0 (Pt XH ?_);rw[yS0];refine S0 (hS0 XH X.nc ?_);cases hv:VG W2 with
 |E0 v=>rw[hv]at hq;exact E2 hq
 |H0=>
  show V0 M A (U90 (.J0 lH::AF) W2) Q E _;rw[yS0];refine S0 (hS0 X.atL X.nl ?_);cases hw:dH W2 with
  |E0 v=>rw[hv,hw]at hq;exact E2 hq
  |H0=>
   rw[hv,hw]at hq;show V0 M A (U90 AF W2) Q E _;rw[ZU];exact E2 hq
theorem mM0(X:vA h k l){I4:P0 K0}{Q:S7->D1->Prop}(hq:Q () ⟨h,g,d,t,os⟩):V0 M A (CR "Exception.__new__" ⟨.J0 y4::I4,[]⟩) Q E ⟨h,g,d,t,os⟩:=by
 have F:=ba;have hC:=XH;have nM0:(w6 y4::.J0 lH::AF).RG (.U0 "Exception")=I0:=by rw[nQ];exact fA0
 have hstar:=F.P8;unfold CR;rw[F.newKind,F.newSplit,F.newRow]
 repeat (first|refine wA hC ?_|(refine xQ hC ?_;rw[nM0])|refine wpAny_staticBase_exc hC ?_|refine i80 hC ?_|with_reducible refine PI (λ h=>LG ((bne_self_eq_false _).Y3.V2 h)) ?_|wp_step)
 exact hq
end
section
variable{prog:Program}{w:World}{A:Around}{E:Value->Shared->Prop}{R:Result->Shared->Prop}{h:Heap}{g:Array GenState}{d:Drawn}{t:Nat}{os:OsState}{k l:XK}
theorem oM0(X:vA h k l){I4:P0 K0}(hq:R (.ok (.U1 (.J0 (l8+1)))) ⟨BJ h y4 I4,g,d,t,os⟩)(ZU:I4.L7<=XA):
  FC (T4 K3 w) A (.Z4 "Exception.__new__" ⟨.J0 y4::I4,[]⟩) R ⟨h,g,d,t,os⟩:=by
 have F:=ba;have hC:=XH;have QW0:=F.ends;have BN:(w6 y4::.J0 lH::AF).RG (.U0 "Exception")=I0:=by rw[nQ];exact fA0
 have hcA:(w6 y4::.J0 lH::AF).RG (.U0 "AttributeError")=R0:=by rw[nQ];exact F.gA0
 have hcN:(w6 y4::.J0 lH::AF).RG (.U0 "NameError")=R0:=by rw[nQ];exact F.noName
 refine codeAny_builtinAt F.entry ?_;unfold KA.«BaseException.__new__»;refine ZV0 ?_;show wpAt _ _ _ (stack>>=_) _ _ _;refine ZV0 (wpAt_stack λ p below=>xT0 ?_)
 wp_walk
 refine xT0 ?_;rw[F.Iz]
 repeat (first|with_reducible refine wpAny_madeHere_exc F.canon hC ?_|with_reducible refine wA hC ?_|(with_reducible refine xQ hC ?_;first|rw[BN]|rw[hcA]|rw[hcN])|wp_step)
 show R _ _;rw[TD];exact hq
theorem pM0(X:vA h k l){I4:P0 K0}{fI:H1}{oI:C4}{Q:gH->D1->Prop}(hk:VG "__init__"=H0)(hi:dH "__init__"=E0 (.J0 fI))(BS:B3 fI=E0 oI)(cX:cz=.U0 "function")
  (ZU:I4.L7<=XA)
  (hq:V0 (T4 K3 w) A (K2 (.J0 fI) (.J0 (l8+1)::I4)) (λ r s'=>r=.H0/\Q (.KD (.U1 (.J0 (l8+1)))) s') E ⟨BJ h y4 I4,g,d,t,os⟩):
  V0 (T4 K3 w) A (KA.«type.__call__» ⟨.J0 y4::I4,[]⟩) Q E ⟨h,g,d,t,os⟩:=by
 have F:=ba;have hC:=XH
 repeat (first|with_reducible refine wA hC ?_|with_reducible refine i80 hC ?_|wp_step)
 refine GS0 (Fs _ F.quiet) (mM0 X ?_);refine oM0 X ?_ ZU;show V0 _ _ _ _ _ _;have d50:vA (BJ h y4 I4) k l:=X.JC λ b o e=>S6 _ (S6 _ e);have Hj:=d50.atC;have Uu:(BJ h y4 I4).W5 fI=E0 oI:=S6 _ (S6 _ BS);have xF:(BJ h y4 I4).W5 (l8+1)=E0 {O2:=.J0 y4,L3:=.R5 #[.J0 l8,.H0,.H0,.H0,.N3 R0,.H0]}:=by heap_get
 have Xg:(w6 y4::.J0 lH::AF).RG (.J0 y4)=I0:=by simp
 unfold cw
 repeat (first|with_reducible refine wA xF ?_|(with_reducible refine xQ Hj ?_;rw[Xg])|wp_step)
 show V0 _ _ (MA (.J0 y4) _) _ _ _;refine YT d50 F.vZ.X9 ?_;rw[hk,hi];refine z7 (S0 ?_);unfold iU0;refine S0 (IR (T:="function") ⟨_,Uu,cX⟩ ?_);rw[w3 (by decide)];refine E2 (S0 (U3 hq (λ r s' hr=>?_) λ _ _ x=>x));obtain⟨O,hQ⟩:=hr
 wp_walk
 exact hQ
theorem qM0{M:UB}(X:vA h k l){I4:P0 K0}{Q:S7->D1->Prop}(hq:Q () ⟨h,g,d,t,os⟩):V0 M A (CR "type.__call__" ⟨.J0 y4::I4,[]⟩) Q E ⟨h,g,d,t,os⟩:=
 HS0 XH hq
theorem rM0(X:vA h k l){I4:P0 K0}{fI:H1}{oI:C4}{Q:K0->D1->Prop}(hk:VG "__init__"=H0)(hi:dH "__init__"=E0 (.J0 fI))(BS:B3 fI=E0 oI)(cX:cz=.U0 "function")
  (ZU:I4.L7<=XA)
  (hq:V0 (T4 K3 w) (ZR (.Z4 "type.__call__" ⟨.J0 y4::I4,[]⟩)) (K2 (.J0 fI) (.J0 (l8+1)::I4)) (λ r s'=>r=.H0/\Q (.J0 (l8+1)) s') E ⟨BJ h y4 I4,g,d,t,os⟩):
  V0 (T4 K3 w) A (K2 (.J0 y4) I4) Q E ⟨h,g,d,t,os⟩:=by
 have f1:=TV0;have f2:=tc_bind (.J0 y4);have hC:=XH;have hT:(⟨h,g,d,t,os⟩:D1).XV (.J0 y4) "type":=⟨_,hC,O⟩;refine oZ (UZ ?_);show V0 _ _ (SA0 (.J0 y4) _) _ _ _
 repeat (any_goals (first|assumption|with_reducible refine wA hC ?_|wp_step))
 refine⟨O,?_⟩;exact LS0 (Fs _ (by decide +E7)) XT0 (qM0 X (pM0 X hk hi BS cX ZU hq))
theorem e50{M:UB}(X:vA h k l){Q:Um->D1->Prop}(hq:Q .machine ⟨h,g,d,t,os⟩):V0 M A (lV0 (.J0 y4)) Q E ⟨h,g,d,t,os⟩:=iS0 XH hq
noncomputable abbrev y9(C:H1)(mH:Q1 H1)(vs:L4 K0):C4:=⟨.J0 C,mH,.R5 vs,#[]⟩
variable{M:Model}{e:Addr}{dct:Option Addr}{vs:Array Value}
theorem f50(X:vA h k l)(he:B3 e=E0 (y9 y4 mH vs)){msg:U6}{Q:K0->D1->Prop}(hq:Q (.J0 e) ⟨h,g,d,t,os⟩):V0 M A (RU0 (.J0 e) msg) Q E ⟨h,g,d,t,os⟩:=by
 have hC:=XH;have BN:(w6 y4::.J0 lH::AF).RG (.U0 "BaseException")=I0:=by rw[nQ];exact y70
 unfold RU0
 repeat (first|with_reducible refine wA he ?_|with_reducible refine wA hC ?_|(with_reducible refine xQ hC ?_;rw[BN])|wp_step)
 exact hq
theorem g50(he:B3 e=E0 (y9 y4 mH vs)){Q:I1->D1->Prop}(hq:Q R0 ⟨h,g,d,t,os⟩):V0 M A (isType (.J0 e)) Q E ⟨h,g,d,t,os⟩:=by
 unfold isType
 repeat (first|with_reducible refine wA he ?_|wp_step)
 exact hq
theorem h50(X:vA h k l)(he:B3 e=E0 (y9 y4 mH vs)){Q:K0->D1->Prop}(hq:Q (.J0 e) ⟨h,g,d,t,os⟩):V0 M A (cT0 (.J0 e)) Q E ⟨h,g,d,t,os⟩:=by
 have hC:=XH;unfold cT0
 repeat (first|with_reducible refine wA he ?_|with_reducible refine wA hC ?_|wp_step)
 exact hq
theorem sM0{x:X7 K0}{N0:o6}{Q:LJ->D1->Prop}{s:D1}(hh:C9=H0)
  (h:V0 M A x (λ v M6=>∃e mH vs k l,v=.J0 e/\vA c00 k l/\M6.FV e=E0 (y9 y4 mH vs)/\V0 M A (Ge (.J0 e) H0) (λ _ q9=>E (.J0 e) q9) E M6) E s):
  V0 M A (Ie N0 (E0 x) H0) Q E s:=by
 unfold Ie;refine S0 (U3 h (λ v M6 j5=>?_) λ _ _ x=>x);obtain⟨e,mH,vs,k,l,O,X,he,hE⟩:=j5;obtain⟨hp,g,d,tk,os⟩:=M6;refine S0 (E2 (S0 (z7 (f50 X he ?_))));refine S0 (g50 he ?_);refine PI LG ?_;refine S0 (h50 X he ?_);exact S0 (U3 hE (λ _ q9 r7=>wpAny_raiseNew_none hh r7) λ _ _ x=>x)
theorem tM0{k' l':XK}(X:vA h k l)(X':vA h k' l')(Y6:zN≠lH)(he:B3 e=E0 (y9 y4 mH vs)){Q:I1->D1->Prop}(hq:Q (DE (zN=y4)) ⟨h,g,d,t,os⟩):
  V0 M A (DV0 (.J0 e) (.J0 zN)) Q E ⟨h,g,d,t,os⟩:=by
 have hC:=XH;have hC':=X'.atC;have BN:(w6 zN::.J0 l'.C::AF).RG (.U0 "BaseException")=I0:=by rw[nQ];exact y70
 have Xg:(w6 y4::.J0 lH::AF).RG (.J0 zN)=DE (zN=y4):=by
  rw[Ps,Ps];have e1:(w6 zN==w6 lH)=R0:=by simpa using Y6
  have e2:(w6 zN==w6 y4)=DE (zN=y4):=by
   by_cases q:zN=y4
   ·rw[q];simp
   ·simp[q]
  have e3:AF.RG (.J0 zN)=R0:=O;rw[e1,e2,e3];simp
 have f:=tc_notTuple;unfold DV0
 repeat (first|with_reducible refine wA he ?_|with_reducible refine wA hC' ?_|(with_reducible refine xQ hC' ?_;rw[BN])|(with_reducible refine xQ hC ?_;rw[Xg])|wp_step)
 cases hb:DE (zN=y4)<;>(rw[hb]at hq;wp_walk;exact hq)
end
end
end
section
open PyProof.Rows
variable{B:Bs}{A:Around}{G G':Gh}{s s':Shared}{F:Addr->Prop}{FZ:Nat->Bool}
variable{g:Nat->Option PV}{cl:Nat->Nat}{n:Nat}{ih:B5}{T:Tab}{cenv:Env}{L:Kinds}{env:PV}{k:Nat}
theorem U4.i50{α β γ:Type}{R:Gh->O1->α->β->Prop}{m:M α}{t:X7 β}{f:α->M γ}{P:γ->K1->Prop}{X:C0->K1->Prop}{K:β->D1->Prop}(h:U4 B R N2 A m t G s)(a:(F1 m f R1).P1 P X)
  (k:∀G' s' a b,Z2 B N2 G s G' s'->J1 B A G' s'->R G' T6 a b->(f a tF).P1 P X->K b s'):V0 R2 A t K (Px B F A G s X) s:=
 U3 (h.q8 a k) (λ _ _ h=>h) λ _ _ h=>jn
def CN:P0 C1:=["__getattribute__","__getattr__","__setattr__","message","spot"]
structure WE(B:Bs)(T:jI)where
 l:XK
 leaf:∀c,T9 T c=I0->∃k:XK,y4=c/\c≠lH/\(∀h,VD B h->vA h k l)/\VG "__init__"=H0/\∀n∈CN,VG n=H0
 uM0:∀n∈CN,dH n=H0
theorem SW0{e:v0}{C2:Q3}:exec (.ZP (E0 e) H0 C2) N0=(do QI C2;Ie N0 (E0 (do let v <-M5 e N0;QI C2;J4 v)) H0):=by
 rw[arm_exec_Raise];rfl
theorem ZT(gd:J1 B A G s){i:C0}(hi:i<I3){cx:I1}{c d:C0}(h:O3 i=.J8 cx c d):∃vs,E3 (Y2 i)=E0 (y9 c (E0 (Y2 d)) vs)/\lS RH cx W0 vs:=by
 have ob:=UL i hi;rw[h]at ob;obtain⟨vs,e,_,_,t⟩:=ob;exact⟨vs,e,t⟩
theorem vM0(XB:WE B T)(HE:x7 B g cl n ih)(X:F5 B n A N0 L O0 G s){e:v0}{I4:P0 U5}{C2:Q3}{k2:C0}:
  nO B A N0 L (F1 (P5 (cE g cl k2 L e) O0) (j10 T)) (.ZP (E0 e) H0 C2::I4) G s:=by
 intro P Q M0;refine xA ?_;refine S0 (yA (sM0 cn ?_));refine S0 ((HE X).i50 M0 λ G1 s1 a v D2 g1 ra D4=>S0 (yA (E2 ?_)));cases a using P3 with
 |J0 i=>
  symm;obtain⟨hi,O⟩:=ra;have D4:(((match eW i with|.J8 _ c _=>kA 79 (T9 T c) (pn i)|_=>F2 79):M Fl) mF).P1 P Q:=D4;cases ex:eW i with
  |J8 cx c d=>
   rw[ex]at D4;obtain⟨hc,hq⟩:=TX D4;have hq:Q i mF:=hq;obtain⟨k,O,Y6,D8,_⟩:=MU c hc;obtain⟨vs,ho,_⟩:=ZT g1 hi ex;ext;refine⟨Mz i,_,vs,k,XB.l,O,D8 _ Q00,ho,YQ g1 ⟨hi,O,cx,y4,d,ex⟩ λ s2 kC=>?_⟩;exact⟨G1,i,(bC λ _ q=>P6).V2 (kC.2.D5 λ _ q=>P6),kC.1,⟨hi,O,cx,y4,d,ex⟩,hq⟩
  |_=>
   ext;rw[ex]at D4;exact D4.HB
 |_=>exact D4.HB
def Yv(g:C0->Q1 PV)(cl:C0->C0)(E:B5):Prop:=∀{k:C0}{L:y5}{O0:PV}{σ:K1}{P:Fl->K1->Prop}{Q:C0->K1->Prop},(E.vD (cS g cl k L []) O0 σ).P1 P Q->P (.W4 O0) σ
theorem wM0:Yv g cl (J6 FZ T ih):=by
 intro k L O0 σ P Q h;induction k using ML with
 |i9=>exact V4
 |c9 k=>exact h
def Zv(B:Bs)(g:C0->Q1 PV)(cl:C0->C0)(n:C0)(E:B5):Prop:=
 ∀{A:B6}{G:Gh}{s:D1}{N0:o6}{L:y5}{O0:PV}{k:C0}{b:P0 U5}{P:Fl->K1->Prop}{Q:C0->K1->Prop},F5 B n A N0 L O0 G s->BV b=I0->(E.vD (cS g cl k L b) O0 R1).P1 P Q->
  V0 R2 A (jC b N0) (Po B (VE B N0) (C5 N0 L) A G s P) (Px B N2 A G s Q) s
theorem xM0(CT:XD B T)(ON:xE)(HE:x7 B g cl n ih)(HN:Yv g cl ih):Zv B g cl (n+1) (J6 FZ T ih):=by
 intro A G s N0 L O0 k b P Q X1 hb M0;have X:=N00;have M0:(Hh FZ T ih (cS g cl k L b) O0 R1).P1 P Q:=M0;induction k using ML with
 |i9=>exact B4
 |c9 k=>
  have sh:=aC0 b;rw[hb]at sh;cases sh with
  |V1 x xp f L1 OA cp C2=>
   change(Hh FZ T ih (bif WM (.Z3 x xp) (.B7 f L1 OA cp)&&iG (YF (.Z3 x xp))&&mK (.Z3 x xp) (.B7 f L1 OA cp)then .V1 (cT L (cE g cl k L) (.Z3 x xp)) (cE g cl k L (.B7 f L1 OA cp)) (cS g cl k L [])else .M2) O0 R1).P1 P Q at M0;cases hc:WM (.Z3 x xp) (.B7 f L1 OA cp)&&iG (YF (.Z3 x xp))&&mK (.Z3 x xp) (.B7 f L1 OA cp)with
   |R0=>rw[hc]at M0;exact B4
   |I0=>
    rw[hc]at M0;simp -u4 only[N5]at hc;have M0:(F1 (P5 (cE g cl k L (.B7 f L1 OA cp)) O0) (λ v=>F1 (XC FZ T ih (cT L (cE g cl k L) (.Z3 x xp)) v O0) λ R9=>ZC (cS g cl k L []) R9) R1).P1 P Q:=M0;refine xA ?_;have sw:cv [.Z3 x xp] (.B7 f L1 OA cp) a_ N0=J4 R0:=O;refine S0 (yA (S0 (E2 ?_)));refine PI LG ?_;refine S0 ((HE X).q8 M0 λ G1 s1 a v D2 g1 ra D4=>?_);have h2:=R50 (X':=λ _ _=>I6) (.S2 ⟨x,xp,O⟩) (j6 D4);refine U3 (Ck CT ON HE (GC D2 g1) hc.2 hc.1.2 ra h2) (λ f s2 ⟨hf,G2,T8,I2,g2,Q6,hp⟩=>?_) λ e s2 ⟨_,_,_,_,_,h⟩=>V4;subst hf;exact DP ⟨G2,.W4 T8,(bC λ _ q=>P6).V2 I2,g2,Q6,HN hp⟩
  |A6 f L1 OA cp C2=>
   have M0:(F1 (P5 (cE g cl k L (.B7 f L1 OA cp)) O0) (λ _=>ZC (cS g cl k L []) O0) R1).P1 P Q:=M0;refine xA ?_;refine w80 ?_ (c50 X) O;refine(HE X).q8 M0 λ G1 s1 a v D2 g1 ra D4=>?_;exact DP ⟨G1,.W4 O0,bC λ _ q=>P6,g1,VL D2,HN D4⟩
end
section
open PyProof.Rows
variable{B:Bs}{A:Around}{G G':Gh}{s s':Shared}{F:Addr->Prop}{FZ:Nat->Bool}
variable{g:Nat->Option PV}{cl:Nat->Nat}{n:Nat}{ih:B5}{T:Tab}{cenv:Env}{L:Kinds}{env:PV}{k:Nat}
theorem j50{t:v0}{a:C0}(h:VH g L t=E0 a):∃x p,t=.Z3 x p/\w4 x=I0/\D7 L x=I0/\g (vc x)=E0 (.Z0 a):=by
 symm;obtain⟨x,hx,h⟩:=OS h;obtain⟨p,O⟩:=FY hx;obtain⟨hc,h⟩:=PC h;obtain⟨v,hv,h⟩:=OS h;obtain⟨h1,h2⟩:=ph hc;ext;exact⟨x,p,O,h1,h2,hv.V2 (G6 E0 (QC0 h))⟩
theorem yM0(BF:R7 B g)(ES:j9 N0 L)(gd:J1 B A G s)(er:T5 B N0 D0 O0 G W0){e:v0}{r:C}{vs:PV}(h:GQ O0 (.A0 (WO g L e) r)=E0 vs):
  ∃v nC,vs=.A0 v nC/\GQ O0 r=E0 nC/\∀(P:PV->K1->Prop)(X:C0->K1->Prop),P v R1->V0 R2 A (M5 e N0) (Po B RV N2 A G s P) (Px B N2 A G s X) s:=by
 have u0:∀{p:PV},WO g L e=.u0 p->(∀(P:PV->K1->Prop)(X:C0->K1->Prop),P p R1->V0 R2 A (M5 e N0) (Po B RV N2 A G s P) (Px B N2 A G s X) s)->
   ∃v nC,vs=.A0 v nC/\GQ O0 r=E0 nC/\∀(P:PV->K1->Prop)(X:C0->K1->Prop),P v R1->V0 R2 A (M5 e N0) (Po B RV N2 A G s P) (Px B N2 A G s X) s:=λ{p} hc hw=>by
  rw[hc]at h;have h:(GQ O0 r).Y4 (.A0 p)=E0 vs:=h;obtain⟨nC,h1,h2⟩:=QQ h;exact⟨p,nC,E00,h1,hw⟩
 have M2:WO g L e=.M2->I6:=λ hc=>by rw[hc]at h;contradiction
 cases e using Z9 with
 |Z3 x p=>
  symm;have hc:WO g L (.Z3 x p)=IQ g L x:=O;unfold IQ at hc;cases hn:w4 x with
  |R0=>
   ext;rw[hn]at hc;exact(M2 hc).HB
  |I0=>
   rw[hn]at hc;cases hl:l7 L x with
   |I0=>
    rw[hl]at hc;have hc:WO g L (.Z3 x p)=.F0 (vc x):=hc;rw[hc]at h;have h:(match H4 (vc x) O0 with|E0 v=>(GQ O0 r).Y4 (.A0 v)|H0=>H0)=E0 vs:=h;cases hv:H4 (vc x) O0 with
    |H0=>
     ext;rw[hv]at h;contradiction
    |E0 v=>
     rw[hv]at h;obtain⟨nC,h1,h2⟩:=QQ h;ext;refine⟨v,nC,E00,h1,λ P X hp=>S30 ES gd er hn hl P X ?_⟩;rw[hv];exact hp
   |R0=>
    rw[hl]at hc;cases hg:D7 L x with
    |R0=>
     ext;rw[hg]at hc;exact(M2 hc).HB
    |I0=>
     rw[hg]at hc;cases hp:g (vc x)with
     |H0=>
      ext;rw[hp]at hc;exact(M2 hc).HB
     |E0 q=>
      rw[hp]at hc;ext;exact u0 hc λ P X hP=>U30 BF ES gd hn hg hp P X hP
 |G8 c j p=>
  symm;have hc:WO g L (.G8 c j p)=UO c:=O;rcases T40 c with q|⟨p',q⟩
  ·ext;rw[q]at hc;exact(M2 hc).HB
  ·ext;exact u0 (hc.V2 q) λ P X hP=>Dx gd q P X hP
 |_=>exact(M2 O).HB
theorem zM0(BF:R7 B g)(ES:j9 N0 L){C2:Q3}:∀{es:P0 v0}{vs:PV}{G:Gh}{s:D1},J1 B A G s->T5 B N0 D0 O0 G W0->GQ O0 (Q8 (WO g L) es)=E0 vs->
  ∀(P:PV->K1->Prop)(X:C0->K1->Prop),P vs R1->V0 R2 A (Jy (A_ C2 (JU es N0))) (Po B (dY Nn) N2 A G s P) (Px B N2 A G s X) s:=by
 intro zq;induction zq with
 |B0=>
  intro vs G s gd er h P X hp;have h:E0 fP=E0 vs:=h;obtain O:=H3 h;exact GJ (.CB (R:=dY 0) (a:=.B0) gd ⟨O,O⟩ hp)
 |A0 e r ih=>
  intro vs G s gd er h P X hp;cases he:P8 e with
  |R0=>rw[Jj he]at h;contradiction
  |I0=>
   rw[Ij he]at h;rw[vI he];obtain⟨v,nC,O,h1,h2⟩:=yM0 BF ES gd er h;refine uD (U3 (h2 (λ a σ=>a=v/\σ=R1) X ⟨O,O⟩) (λ w s1 ⟨G1,a,D2,g1,ra,ea,eσ⟩=>?_) λ _ _ h=>h);subst ea;refine U3 (ih g1 (EI D2) h1 (λ a2 σ=>P (.A0 a a2) σ) X (by rw[eσ];exact hp)) (λ ws s2 ⟨G2,a2,I2,g2,r2,hp2⟩=>?_) λ _ _ h=>OJ D2;exact .at (R:=dY (r.L7+1)) (a:=.A0 a a2) (AC I2) g2 ⟨⟨w,ws,O,ra.J6 I2,r2.1⟩,G6 HH r2.2⟩ hp2
end
section
open Builtin Builtin.ObjectAttr
section
section
variable{prog:Program}{w:World}{A:Around}{E:Value->Shared->Prop}{h:Heap}{g:Array GenState}{d:Drawn}{t:Nat}{os:OsState}{k l:XK}{e:Addr}{dct:Option Addr}{vs:Array Value}{name:Str}{v:Value}
theorem l50{M:UB}(X:vA h k l)(he:B3 e=E0 (y9 y4 mH vs)){Hf:K0}{Q:S7->D1->Prop}(hq:Q () ⟨h,g,d,t,os⟩):
  V0 M A (CR "object.__setattr__" ⟨[.J0 e,Hf,v],[]⟩) Q E ⟨h,g,d,t,os⟩:=by
 have SF:=Bi;have hC:=XH;have BN:(w6 y4::.J0 lH::AF).RG (.U0 "object")=I0:=by rw[nQ];exact SF.hasOwner
 have ha:=SF.L1 (.J0 e) Hf v;unfold CR;rw[SF.aL,SF.fR];refine S0 ?_;unfold cw
 repeat (first|with_reducible refine wA he ?_|(with_reducible refine xQ hC ?_;rw[BN])|wp_step)
 exact hq
def Dk(h:O1)(e:H1)(k:XK)(vs:L4 K0)(D:H1)(m:C1->Q1 K0)(h':O1):Prop:=
 C3 e=E0 (y9 y4 (E0 D) vs)/\Ze D m/\(∃o,C3 D=E0 o/\F4=.U0 "dict")/\∀b o,b≠e->b≠D->B3 b=E0 o->C3 b=E0 o
theorem AN0{tk:O6}{Q:gH->D1->Prop}(X:vA h k l)(hk:VG W2=H0)(hl:dH W2=H0)(hB:MA (.U0 "Exception") W2=J4 H0)(he:B3 e=E0 (y9 y4 H0 vs))
  (hq:∀h' MD,Dk h e k vs l8 (λ y=>if y=W2 then E0 v else H0) h'->Q (.KD (.U1 .H0)) ⟨h',g,d,MD,os⟩):
  V0 (T4 K3 w) A (KA.«object.__setattr__» ⟨[.J0 e,.Y0 W2 tk,v],[]⟩) Q E ⟨h,g,d,t,os⟩:=by
 have SF:=Bi;have hC:=XH;have Ef:=l90 (.J0 e);generalize WF:y9 y4 H0 vs=o at he;have MM:F4=.J0 y4:=by rw[<-WF]
 have cg:mU=H0:=by rw[<-WF]
 have tY:F9=.R5 vs:=by rw[<-WF]
 have Ga:Ko=#[]:=by rw[<-WF]
 unfold KA.«object.__setattr__»
 repeat (first|rw[m90]|(rw[Tk,Tk,Ef])|(with_reducible refine wA he ?_;rw[MM])|with_reducible refine Pt hC ?_|(with_reducible refine YT X hB ?_;rw[hk,hl])|wp_step)
 rw[cg];rewrite [u3 (by simp[typeHasDict])];dsimp only;rw[tY];dsimp only
 ·have m50:(iN {O2:=.U0 "dict",L3:=.H2 #[]}).W5 e=E0 o:=S6 _ he;have iX:e≠l8:=WC (o9 he);refine S0 (wpAny_alloc' ?_);refine S0 (wpAny_update' m50 ?_);refine E2 ?_;have Yg:((iN {O2:=.U0 "dict",L3:=.H2 #[]}).GF e λ o=>{O2:=F4,H2:=E0 l8,L3:=F9,IC:=Ko}).W5 l8
    =E0 {O2:=.U0 "dict",L3:=.H2 #[]}:=
   (LT0 _ _ _ _ iX.Y3).V2 (pT0 O O)
  have hnd:((iN {O2:=.U0 "dict",L3:=.H2 #[]}).GF e λ o=>{O2:=F4,H2:=E0 l8,L3:=F9,IC:=Ko}).Ns l8 (λ _=>H0):=
   ⟨_,#[],_,Yg,O,λ e he=>T3 he (by simp),λ _=>O⟩
  show V0 _ _ (M90 l8 (.Y0 W2 tk) W2 v) _ _ _;refine S0 (E2 (S0 (Qu (bU0 hnd) λ h' AM hs YG=>?_)));obtain⟨oD,esD,epD,fV,Rc,gV⟩:=HA0 (PU.A0 W2 v PU.B0);refine S0 (g80 fV (by rw[Rc];exact h80 (W6 gV (by rw[EJ,qT,HI];omega))) ?_)
  wp_walk
  have NO:C3 e=E0 (y9 y4 (E0 l8) vs):=by
   refine(hs.2 e iX).V2 ((BH _ m50 (by simp[C4.isFreed,tY])).V2 ?_);rw[MM,tY,Ga]
  refine hq h' _ ⟨NO,AM,?_,λ b ob hbx hbD hb=>?_⟩
  ·obtain⟨o',xR,aB⟩:=YG _ Yg;exact⟨o',xR,aB⟩
  ·exact(hs.2 b hbD).V2 ((LT0 _ _ _ _ hbx).V2 (S6 _ hb))
theorem BN0{tk:O6}{Q:gH->D1->Prop}{D:H1}{m:C1->Q1 K0}{ns:P0 C1}(X:vA h k l)(hk:VG W2=H0)(hl:dH W2=H0)(hB:MA (.U0 "Exception") W2=J4 H0)(he:B3 e=E0 (y9 y4 (E0 D) vs))
  (XG:TU D m)(hc:∃o,B3 D=E0 o/\F4=.U0 "dict")(Y6:D≠e)(hw:PU m ns)(Y7:IK<=100)
  (hq:∀h' MD,Dk h e k vs D (λ y=>if y=W2 then E0 v else m y) h'->Q (.KD (.U1 .H0)) ⟨h',g,d,MD,os⟩):
  V0 (T4 K3 w) A (KA.«object.__setattr__» ⟨[.J0 e,.Y0 W2 tk,v],[]⟩) Q E ⟨h,g,d,t,os⟩:=by
 have SF:=Bi;have hC:=XH;have Ef:=l90 (.J0 e);generalize WF:y9 y4 (E0 D) vs=o at he;have MM:F4=.J0 y4:=by rw[<-WF]
 have cg:mU=(E0 D):=by rw[<-WF]
 have tY:F9=.R5 vs:=by rw[<-WF]
 have Ga:Ko=#[]:=by rw[<-WF]
 unfold KA.«object.__setattr__»
 repeat (first|rw[m90]|(rw[Tk,Tk,Ef])|(with_reducible refine wA he ?_;rw[MM])|with_reducible refine Pt hC ?_|(with_reducible refine YT X hB ?_;rw[hk,hl])|wp_step)
 rw[cg];refine E2 ?_;show V0 _ _ (M90 D (.Y0 W2 tk) W2 v) _ _ _;refine S0 (E2 (S0 (Qu XG λ h' AM hs YG=>?_)));obtain⟨oD,esD,epD,fV,Rc,gV⟩:=HA0 (PU.A0 W2 v hw);refine S0 (g80 fV (by rw[Rc];exact h80 (W6 gV (by rw[EJ,HI];omega))) ?_)
 wp_walk
 refine hq h' _ ⟨cW _ _ TR (WF▸he),AM,?_,λ b o _ hb e=>cW _ _ hb e⟩;obtain⟨o,ho,hco⟩:=hc;obtain⟨o',xR,aB⟩:=YG o ho;exact⟨o',xR,aB.V2 hco⟩
end
end
end
section
open Builtin Builtin.ObjectAttr
section
section
variable{prog:Program}{w:World}{A:Around}{E:Value->Shared->Prop}{h:Heap}{g:Array GenState}{d:Drawn}{t:Nat}{os:OsState}{k l:XK}{e:Addr}{dct:Option Addr}{vs:Array Value}{name:Str}{v:Value}
theorem CN0{Q:S7->D1->Prop}(X:vA h k l)(hs:VG "__setattr__"=H0)(hsl:dH "__setattr__"=H0)(hk:VG W2=H0)(hl:dH W2=H0)(hB:MA (.U0 "Exception") W2=J4 H0)(he:B3 e=E0 (y9 y4 H0 vs))
  (hq:∀h' MD,Dk h e k vs l8 (λ y=>if y=W2 then E0 v else H0) h'->Q () ⟨h',g,d,MD,os⟩):
  V0 (T4 K3 w) A (PW (.J0 e) W2 v) Q E ⟨h,g,d,t,os⟩:=by
 have SF:=Bi;have f3:=LU.R6 (.J0 e);unfold PW SU0 ix
 repeat (any_goals (first|assumption|with_reducible refine wA he ?_|(with_reducible refine YT X LU.X9 ?_;rw[hs,hsl])|wp_step))
 refine li LU.uF z90 (l50 X he (AN0 X hk hl hB he λ h' MD NC=>?_))
 repeat (any_goals (first|assumption|wp_step))
 exact hq h' MD NC
theorem DN0{Q:S7->D1->Prop}{D:H1}{m:C1->Q1 K0}{ns:P0 C1}(X:vA h k l)(hs:VG "__setattr__"=H0)(hsl:dH "__setattr__"=H0)(hk:VG W2=H0)(hl:dH W2=H0)(hB:MA (.U0 "Exception") W2=J4 H0)
  (he:B3 e=E0 (y9 y4 (E0 D) vs))(XG:TU D m)(hc:∃o,B3 D=E0 o/\F4=.U0 "dict")(Y6:D≠e)(hw:PU m ns)(Y7:IK<=100)
  (hq:∀h' MD,Dk h e k vs D (λ y=>if y=W2 then E0 v else m y) h'->Q () ⟨h',g,d,MD,os⟩):
  V0 (T4 K3 w) A (PW (.J0 e) W2 v) Q E ⟨h,g,d,t,os⟩:=by
 have SF:=Bi;have f3:=LU.R6 (.J0 e);unfold PW SU0 ix
 repeat (any_goals (first|assumption|with_reducible refine wA he ?_|(with_reducible refine YT X LU.X9 ?_;rw[hs,hsl])|wp_step))
 refine li LU.uF z90 (l50 X he (BN0 X hk hl hB he XG hc Y6 hw Y7 λ h' MD NC=>?_))
 repeat (any_goals (first|assumption|wp_step))
 exact hq h' MD NC
theorem EN0{M:UB}(X:vA h k l)(he:B3 e=E0 (y9 y4 mH vs)){Hf:K0}{Q:S7->D1->Prop}(hq:Q () ⟨h,g,d,t,os⟩):
  V0 M A (CR "BaseException.__getattribute__" ⟨[.J0 e,Hf],[]⟩) Q E ⟨h,g,d,t,os⟩:=by
 have hC:=XH;have hk:builtinKind "BaseException.__getattribute__"=E0 .slot:=by decide +E7
 have de:splitId "BaseException.__getattribute__"=E0 ("BaseException","__getattribute__"):=by decide +E7
 have BN:(w6 y4::.J0 lH::AF).RG (.U0 "BaseException")=I0:=by rw[nQ];exact y70
 have ha:=Y8.args_bexc_ga (.J0 e) Hf;unfold CR;rw[hk,de];refine S0 ?_;unfold cw
 repeat (first|with_reducible refine wA he ?_|(with_reducible refine xQ hC ?_;rw[BN])|wp_step)
 exact hq
theorem entryE{tk:O6}{Q:xO.gH->D1->Prop}{D:H1}{m:C1->Q1 K0}(X:vA h k l)(hk:VG W2=H0)(hl:dH W2=H0)(hB:MA (.U0 "Exception") W2=J4 H0)
  (he:B3 e=E0 (y9 y4 (E0 D) vs))(XG:TU D m)(hv:m W2=E0 v)(hq:Q (.KD (.U1 v)) ⟨h,g,d,t,os⟩):
  V0 (T4 K3 w) A (KA.«object.__getattribute__» ⟨[.J0 e,.Y0 W2 tk],[]⟩) Q E ⟨h,g,d,t,os⟩:=by
 have hC:=XH;generalize WF:y9 y4 (E0 D) vs=o at he;have MM:F4=.J0 y4:=by rw[<-WF]
 have cg:mU=E0 D:=by rw[<-WF]
 have tY:F9=.R5 vs:=by rw[<-WF]
 unfold KA.«object.__getattribute__»
 repeat (first|(with_reducible refine wA he ?_;rw[MM])|(with_reducible refine YT X hB ?_;rw[hk,hl])|wp_step)
 rw[tY];dsimp only;unfold instanceDict
 repeat (first|(with_reducible refine wA he ?_;rw[MM])|with_reducible refine wA hC ?_|wp_step)
 rw[cg]
 repeat (first|(with_reducible refine jU0 XG.ns ?_;rw[hv])|wp_step)
 exact hq
theorem FN0{Q:K0->D1->Prop}{A6:I1}{D:H1}{m:C1->Q1 K0}(X:vA h k l)(h1:VG "__getattribute__"=H0)(h2:dH "__getattribute__"=H0)(h3:VG "__getattr__"=H0)(h4:dH "__getattr__"=H0)(hk:VG W2=H0)(hl:dH W2=H0)
  (hB:MA (.U0 "Exception") W2=J4 H0)(he:B3 e=E0 (y9 y4 (E0 D) vs))(XG:TU D m)(hv:m W2=E0 v)(hh:QV0 v=J4 v)(hq:Q v ⟨h,g,d,t+1,os⟩):
  V0 (T4 K3 w) A (ax (.J0 e) W2 A6) Q E ⟨h,g,d,t,os⟩:=by
 have FB:=Y8.attrBase_Exception;have f3:=FB.ga.R6 (.J0 e);have uI:(A6&&lx (OW "BaseException.__getattribute__"))=R0:=by cases A6 using n7<;>rfl
 have hx2:(OW "BaseException.__getattribute__"==OW "object.__getattribute__")=R0:=by decide +E7
 have hx1:(lx (w6 y4)&&OW "BaseException.__getattribute__"==OW "object.__getattribute__")=R0:=by rw[hx2];rfl
 generalize WF:y9 y4 (E0 D) vs=o at he;have MM:F4=.J0 y4:=by rw[<-WF]
 unfold ax getAttrBy
 repeat (any_goals (first|assumption|(with_reducible refine wA he ?_;rw[MM])|(with_reducible refine YT X FB.ga.X9 ?_;rw[h1,h2])|(with_reducible refine YT X FB.noGetattr ?_;rw[h3,h4])|wp_step))
 subst WF;refine li FB.ga.uF Y8.entry_bexc_ga (EN0 X he (entryE X hk hl hB he XG hv ?_))
 repeat (any_goals (first|assumption|(rewrite [hh])|wp_step))
theorem GN0{Q:K0×P0 K0->D1->Prop}{pl:X7 I1}{s:D1}(hq:Q (.Z4 "Exception.__init__",[]) {s with y3:=X4+1}):
  V0 (T4 K3 w) A (He (.U0 "Exception") "__init__" pl) Q E s:=by
 have ht:typeOf (.U0 "Exception")=J4 (.U0 "type"):=kitMeta_of (by decide +E7);have LO:Looks (T4 K3 w) W0 (zS0 (.U0 "Exception")) H0:=yT0 (by unfold zS0;dsimp only;rfl);have n8:∀{A6:I1}{Q:K0->D1->Prop},Q (.Z4 "Exception.__init__") {s with y3:=X4+1}->V0 (T4 K3 w) A (ax (.U0 "Exception") "__init__" A6) Q E s:=λ hq=>
  cls_open (K:=[]) (mc:=.U0 "type") (r:=.x8 (.Z4 "Exception.__init__")) (hook:=H0) (λ a o e=>by contradiction) LO (yT0 ht) (by show EV0 "type" "__getattribute__"=_;kernel_rfl) (looks_hook (K:=[]) (λ a o e=>by contradiction) (r:=H0) (by rfl)) (by show subIn [] _ _=_;rfl) (by kernel_rfl) (E2 (RV0 O hq))
 have hlk:MA (.U0 "type") "__getattribute__"=J4 (E0 (.Z4 "type.__getattribute__")):=by rw[ft,iq];kernel_rfl
 have hcan:(dS0 "type.__getattribute__"!="object.__getattribute__")=I0:=by decide +E7
 unfold He ix;rw[ht];refine S0 (S0 (E2 (NN hlk ?_)));dsimp only;rw[w3 hcan];exact S0 (n8 (E2 hq))
theorem HN0{M:UB}(X:vA h k l)(he:B3 e=E0 (y9 y4 mH vs)){I4:P0 K0}{Q:S7->D1->Prop}(hq:Q () ⟨h,g,d,t,os⟩):
  V0 M A (CR "Exception.__init__" ⟨.J0 e::I4,[]⟩) Q E ⟨h,g,d,t,os⟩:=by
 have F:=ba;have hC:=XH;have BN:(w6 y4::.J0 lH::AF).RG (.U0 "Exception")=I0:=by rw[nQ];exact fA0
 have TW0:=F.P8;unfold CR;rw[F.initKind,F.initSplit,F.initRow]
 repeat (first|with_reducible refine wA he ?_|with_reducible refine wA hC ?_|(with_reducible refine xQ hC ?_;rw[BN])|wp_step)
 refine aZ ?_;rw[show∀(a b:U6)(n:C0),Bind.check ⟨.positional,"*","Exception",.h_,[⟨"args",.varPos,R0⟩]⟩ a b n (P0.Y4 (λ x=>x.fst) ({C2:=w6 e::I4}:Args).kw)=J4 ()from
  λ a b n=>check_star_args _ _ _ _ _ _]
 exact E2 hq
noncomputable abbrev pQ(T:H1):L4 K0:=#[.J0 T,.H0,.H0,.H0,.N3 R0,.H0]
theorem IN0{T0:H1}(X:vA h k l)(he:B3 e=E0 (y9 y4 mH (pQ T0))){m:K0}{Q:K0->D1->Prop}
  (hq:∀h',C3 e=E0 (y9 y4 mH (pQ l8))->(∀b o,b≠e->B3 b=E0 o->C3 b=E0 o)->Q .H0 ⟨h',g,d,t,os⟩):
  V0 (T4 K3 w) A (K2 (.Z4 "Exception.__init__") [.J0 e,m]) Q E ⟨h,g,d,t,os⟩:=by
 have F:=ba;refine oZ (li F.vZ.uF F.initEntry (HN0 X he ?_));have mI:(iN {O2:=.U0 "tuple",L3:=.V5 [m].N8}).W5 e=E0 (y9 y4 mH (pQ T0)):=S6 _ he
 wp_walk
 refine hq _ ?_ λ b o hb hbo=>?_
 ·rw[BH _ mI O];rfl
 ·rw[hM _ _ (E9 hb)];exact S6 _ hbo
end
end
end
section
open PyProof.Rows
variable{B:Bs}{A:Around}{G G':Gh}{s s':Shared}{F:Addr->Prop}{FZ:Nat->Bool}
variable{g:Nat->Option PV}{cl:Nat->Nat}{n:Nat}{ih:B5}{T:Tab}{cenv:Env}{L:Kinds}{env:PV}{k:Nat}
theorem Dm{G1:Gh}{s1:D1}{a:H1}{o:AO}(st:Z2 B F G s G1 s1)(g:J1 B A G1 s1)(hn:E3 a=H0)(ap:s8 B G1 pE a)(ho:vE B (S_ o a) pE a o):
  J1 B A (S_ o a) s1/\Z2 B F G s (S_ o a) s1:=by
 have le:=G1.UW0 o a;have lt:∀i,i<(S_ o a).σ.n->i<PH\/i=PH:=λ i hi=>Fh hi;have ne:∀i,i<PH->i≠PH:=λ i hi=>WC hi;have fr:∀i,i<PH->eW i≠.K4->Mz i≠a:=λ i hi hn e=>ap.s9 ⟨i,hi,hn,e⟩;have Bg:∀b,u9 (S_ o a) b->u9 G1 b\/b=a:=λ b zz=>fU zz λ i hi hx e=>by
  rcases lt i hi with hi|O
  ·rw[fE,u3 (ne i hi)]at hx;rw[BE i hi]at e;exact .S2 ⟨i,hi,hx,e⟩
  ·exact .L2 (Hd (w3 O))
 obtain⟨h1,t1,e1⟩:=Ff;refine⟨⟨⟨Gn,Km,Bn⟩,⟨λ i j hi hj ni nj e=>?_,λ i hi=>?_,λ i hi=>?_,λ i hi hx=>?_,xD⟩,QB,gE,SJ⟩,⟨h1,t1,e1⟩,xT.V2 le,λ b hb=>?_,Zf,λ b ob e n1 n2 n3=>GX b ob e n1 n2 n3,DX,xW⟩
 ·rw[fE]at ni nj;rcases lt i hi with hi|O<;>rcases lt j hj with hj|O
  ·rw[u3 (ne i hi)]at ni;rw[u3 (ne j hj)]at nj;rw[BE i hi,BE j hj]at e;exact QG i j hi hj ni nj e
  ·rw[u3 (ne i hi)]at ni;rw[BE i hi]at e;exact T3 (e.V2 (w3 O)) (fr i hi ni)
  ·rw[u3 (ne j hj)]at nj;rw[BE j hj]at e;exact T3 (Hd (w3 O)) (fr j hj nj)
  ·rfl
 ·rcases lt i hi with hi|O
  ·rw[fE,u3 (ne i hi),BE i hi];exact(GA i hi).D5 le (λ _ _ _ _ e=>e) (.L5 _) (λ ob e=>e) λ d l hd e=>⟨l,by rw[fE,u3 (ne d hd)];exact e⟩
  ·rw[fE,w3 O,show(S_ o a).ρ PH=a from w3 O];exact ho
 ·have EM:PH+1<=i:=hi;rw[fE,u3 (by omega)];exact XL i (by exact GP ‹_›)
 ·rcases lt i hi with hi|O
  ·rw[fE,u3 (ne i hi)]at hx;rw[BE i hi];exact vC i hi hx
  ·rw[show(S_ o a).ρ PH=a from w3 O];exact ap.eA
 ·rcases Bg b hb with q|O
  ·exact Kf b q
  ·exact .L2 hn
noncomputable abbrev n50(p1 p2 p3 p4 p5 p6 q1 q2 q3 q4 r1 r2 r3 r4:Q3):P0 U5:=
 [.v0 (.B7 (.yC (.Z3 "Exception" p1) "__init__" p2) [.Z3 "self" p3,.Z3 "message" p4] [] p5) p6,
  .MF [.yC (.Z3 "self" q1) "message" q2] (.Z3 "message" q3) q4,.MF [.yC (.Z3 "self" r1) "spot" r2] (.Z3 "spot" r3) r4]
structure wJ(BF:R7 B g)(cl:C0->C0)(XB:WE B T)where
 ini:C0
 gv:XB.dH "__init__"=E0 (.J0 ini)
 p:Pm
 b:S
 fo:bQ B g cl ini p b
 pm:p=.N1 (vc "self") (.N1 (vc "message") (.PN (vc "spot") (.j0 (.N4 0)) .B0))
 O4:∃p1 p2 p3 p4 p5 p6 q1 q2 q3 q4 r1 r2 r3 r4,MX=n50 p1 p2 p3 p4 p5 p6 q1 q2 q3 q4 r1 r2 r3 r4/\Y1 p2.endLine p5.UH=I0
 jv:l7 xI "self"=I0
 JN0:l7 xI "message"=I0
 nv:l7 xI "spot"=I0
 qv:D7 xI "Exception"=I0
 J8:QF "Exception"=H0/\RJ "Exception"=E0 (.U0 "Exception")
theorem o50:MA (.U0 "Exception") "message"=J4 H0:=by rw[ft,iq];kernel_rfl
theorem KN0:MA (.U0 "Exception") "spot"=J4 H0:=by rw[ft,iq];kernel_rfl
theorem uv:eG=vc "message":=by decide +E7
theorem LN0:jK=vc "spot":=by decide +E7
theorem MN0:w4 "self"=I0:=by decide +E7
theorem vv:w4 "message"=I0:=by decide +E7
theorem NN0:w4 "spot"=I0:=by decide +E7
structure Made(B:Bs)(A:B6)(G:Gh)(s:D1)(e:H1)(k:XK)(fl:PV)(s':D1)(D:H1):Prop where
 st:Z2 B (λ b=>b=e) G s G s'
 gd:J1 B A G s'
 NF:∃T,OL e=E0 (y9 y4 (E0 D) (pQ T))
 newD:E3 D=H0
 Ek:s8 B G T6 D
 VJ:∃U2 o,OL D=E0 o/\F4=.U0 "dict"/\T6.Fm D (rF U2)/\(bN (·.1)).GD/\S8 G T6 fl U2
theorem ON0(BF:R7 B g){XB:WE B T}(XI:wJ BF cl XB){k:XK}(D8:∀h,VD B h->vA h k XB.l)(zP:∀n∈CN,VG n=H0)(ES:j9 N0 XI.xI)(gd:J1 B A G s){i:C0}{m q:PV}
  (er:T5 B N0 D0 (ZJ .B0 (.kv (vc "self") (.J0 i) (.kv (vc "message") m (.kv (vc "spot") q .B0)))) G W0){T0:H1}(he:E3 (Y2 i)=E0 (y9 y4 H0 (pQ T0)))(ap:s8 B G W0 (Y2 i))
  (hL:LA≠Y2 i)(hC:∀y c,jF y=E0 c->c≠Y2 i){Q:LJ->D1->Prop}{E:K0->D1->Prop}
  (hq:∀s' D,Made B A G s (Y2 i) k (.kv eG m (.kv jK q .B0)) s' D->Q .W4 s'):V0 R2 A (jC XI.MX N0) Q E s:=by
 obtain⟨p1,p2,p3,p4,p5,p6,q1,q2,q3,q4,r1,r2,r3,r4,Rz,hline⟩:=XI.O4;rw[Rz];generalize yv:ZJ .B0 (.kv (vc "self") (.J0 i) (.kv (vc "message") m (.kv (vc "spot") q .B0)))=O0 at er;have l1:H4 (vc "self") O0=E0 (.J0 i):=by rw[<-yv];rfl
 have l2:H4 (vc "message") O0=E0 m:=by rw[<-yv];rfl
 have l3:H4 (vc "spot") O0=E0 q:=by rw[<-yv];rfl
 have PN0:sv N0=R0:=by unfold sv;rw[aP];rfl
 have zv:∀{s:D1}{p:Q3}{K:K0->D1->Prop},T5 B N0 D0 O0 G W0->K (.J0 (Y2 i)) s->V0 R2 A (M5 (.Z3 "self" p) N0) K E s:=λ er h=>
  rI ES er MN0 XI.jv l1 λ u ru=>by obtain⟨_,O⟩:=ru;exact h
 have Gk:∀{s1 s2:D1},Z2 B (λ b=>b=Y2 i) G s1 G s2->T5 B N0 D0 O0 G pE->T5 B N0 D0 O0 G IN:=λ st er=>w_ st hL λ y c h=>hC y c h;have nb:∀{o:C4},o=y9 y4 H0 (pQ T0)\/lP->lP:=λ _=>zD;have one:∀{s1:D1}{mH:Q1 H1}{vs:L4 K0}{h':O1}{tk:O6},J1 B A G s1->s8 B G pE (Y2 i)->FJ (Y2 i)=E0 (y9 y4 mH vs)->(∀b o,b≠Y2 i->FJ b=E0 o->C3 b=E0 o)->(∃o,C3 (Y2 i)=E0 o)->
   J1 B A G {s1 with A3:=h',y3:=tk}/\Z2 B (λ b=>b=Y2 i) G s1 G {s1 with A3:=h',y3:=tk}:=λ g1 Aw uY hk ho=>
  JB0 (W:=[Y2 i]) g1 (λ b hb=>by
   rw[lT hb];refine⟨Aw,O,λ o e=>?_⟩;obtain O:=H3 (uY.SZ e);exact⟨Li,Li,Li,λ _=>Li⟩) (λ b o hb e=>hk b o (λ q=>hb (by rw[q];exact Ki O)) e) λ b hb=>by rw[lT hb];exact ho
 refine xA (w80 ?_ PN0 O);refine S0 (si ES.Ti (ZV BF ES gd XI.J8 XI.qv (by decide) (S0 (yA ?_))));unfold zU0;unfold oV0;refine S0 (z7 (GN0 ?_));dsimp only;refine S0 ?_;rw[w3 (by rw[show(p2.endLine==p5.UH)=I0 by simpa using L6 hline];rfl)];have oO:=KJ (X4+1);refine E2 (wI (by rfl) (zI (by rfl) ?_));refine uD (zv (Gk (oO.2.D5 λ _ q=>P6) er) ?_);refine uD (rI ES (Gk (oO.2.D5 λ _ q=>P6) er) vv XI.JN0 l2 λ um rum=>GJ ⟨iV,?_⟩);obtain⟨hh,gg,dd,tt,os⟩:=s;refine IN0 (D8 _ EC) he λ h1 uY nI=>?_;obtain⟨g1,D2⟩:=one (tk:=tt+1) gd ap he nI ⟨_,uY⟩;have A9:=Gk D2 er;have Aw:=ap.J6 D2;have n1:("__setattr__":C1)∈CN:=.w7 _ (.w7 _ (.I8 _));have n2:("message":C1)∈CN:=.w7 _ (.w7 _ (.w7 _ (.I8 _)));have n3:("spot":C1)∈CN:=.w7 _ (.w7 _ (.w7 _ (.w7 _ (.I8 _))));refine xA (DS0 (rI ES A9 vv XI.JN0 l2 λ um rum=>zv A9 ?_));refine CN0 (D8 _ Q00) (zP _ n1) (zW _ n1) (zP _ n2) (zW _ n2) o50 uY λ h2 tk2 QN0=>?_;obtain⟨Ld,bX,MO,ZG⟩:=QN0;have Bw:h1.W5 JR=H0:=NE (A8 _);have Cw:JR≠Y2 i:=λ q=>by rw[<-q,Bw]at uY;contradiction
 obtain⟨g2,I2⟩:=one (h':=h2) (tk:=tk2) g1 Aw uY (λ b o hb e=>ZG b o hb (λ q=>by rw[q,Bw]at e;contradiction) e) ⟨_,Ld⟩;have Q6:=Gk I2 A9;have Ek:s8 B G h2 JR:=FX g1 (A8 _) (by obtain⟨o,e,_⟩:=MO;exact⟨o,e⟩);refine xA (DS0 (rI ES Q6 NN0 XI.nv l3 λ uq ruq=>zv Q6 ?_));refine DN0 (ns:=["message"]) (D8 _ cU) (zP _ n1) (zW _ n1) (zP _ n3) (zW _ n3) KN0 Ld bX MO Cw (λ y hy=>?_) (by decide) λ h3 Dw RN0=>?_
 ·by_cases hy':y="message"
  ·rw[hy'];exact Ki O
  ·exact T3 (u3 hy') hy
 obtain⟨vY,hn3,IT,VQ⟩:=RN0;obtain⟨oD,fV,gV⟩:=MO;have g3':=JB0 (F:=λ b=>b=JR) (W:=[JR]) (h':=h3) (tk:=Dw) g2 (λ b hb=>by
   rw[lT hb];exact⟨Ek,O,oY fV gV (by decide)⟩) (λ b o hb e=>by
   have hb:b≠JR:=λ q=>hb (by rw[q];exact Ki O);by_cases q:b=Y2 i
   ·subst q;rw[Ld]at e;obtain O:=H3 e;exact vY
   ·exact VQ b o q hb e) (λ b hb=>by rw[lT hb];exact by obtain⟨o,e,_⟩:=IT;exact⟨o,e⟩)
 obtain⟨g3,S5⟩:=g3';have hDs:Vf JR=H0:=by
  cases e:Vf JR with
  |H0=>rfl
  |E0 o=>obtain⟨o',e'⟩:=g00 _ o e;rw[Bw]at e';contradiction
 refine DP (hq _ JR ⟨?_,g3,⟨_,vY⟩,hDs,Ek.J6 S5,?_⟩)
 ·refine((((AC I2).D5 (F':=λ b=>b=Y2 i\/b=JR) λ b hb=> .S2 hb).V2 (W00 λ b hb=> .L2 hb))).SG λ b hb=>hb.JM id λ q=>?_;rw[q];exact hDs
 ·obtain⟨o3,ho3,hc3⟩:=IT;refine⟨[("message",um),("spot",uq)],o3,ho3,hc3,?_,by show([("message":C1),"spot"]).GD;decide +E7,?_⟩
  ·have em:(λ y=>if y=("spot":C1)then E0 uq else if y=("message":C1)then E0 um else H0)=rF [(("message":C1),um),("spot",uq)]:=Tm λ y=>by
    rw[uS,uS];by_cases h1:y="spot"
    ·rw[w3 h1,u3 (λ q=>by rw[h1]at q;revert q;decide +E7),w3 h1.Y3]
    ·rw[u3 h1];by_cases h2:y="message"
     ·rw[w3 h2,w3 E00]
     ·rw[u3 h2,u3 (E9 h2),u3 (E9 h1)];rfl
   rw[<-em];exact hn3
  ·refine⟨"message",um,_,O,by decide +E7,by rw[uv],(rum.J6 I2).J6 S5,"spot",uq,_,O,by decide +E7,by rw[LN0],ruq.J6 S5,O⟩
end
section
open PyProof.Rows
variable{B:Bs}{A:Around}{G G':Gh}{s s':Shared}{F:Addr->Prop}{FZ:Nat->Bool}
variable{g:Nat->Option PV}{cl:Nat->Nat}{n:Nat}{ih:B5}{T:Tab}{cenv:Env}{L:Kinds}{env:PV}{k:Nat}
theorem SN0{o:AO}{a b:H1}(h:u9 (o7 o a) b):u9 G b\/b=a:=by
 obtain⟨i,hi,hx,e⟩:=h;rcases Fh hi with hi|O
 ·rw[fE,u3 (WC hi)]at hx;rw[(iU o a).ρ i hi]at e;exact .S2 ⟨i,hi,hx,e⟩
 ·exact .L2 (Hd (w3 O))
theorem TN0{L1 fl:PV}(h:Ah L1=E0 fl){G:Gh}{hp:O1}{K5:P0 K0}(r:A4 G hp L1 K5):∃m q,fl=.kv eG m (.kv jK q .B0)/\CK<=2/\
  ∀i,(Pm.N1 (vc "self") (.N1 (vc "message") (.PN (vc "spot") (.j0 (.N4 0)) .B0))).R6 (.A0 (.J0 i) L1)=E0 (.kv (vc "self") (.J0 i) (.kv (vc "message") m (.kv (vc "spot") q .B0))):=by
 obtain⟨x,hx,h⟩:=OS h;rw[HQ hx]at r ⊢;obtain⟨v,l,O,_,r2⟩:=r;rcases r10 h with⟨hn,h⟩|⟨_,h⟩
 ·rw[yU hn]at r2 ⊢;have r2:l=[]:=r2;subst r2;exact⟨x.1,_,(H3 h).Y3,LN 1,λ i=>O⟩
 ·obtain⟨y,hy,h⟩:=OS h;obtain⟨hn,h⟩:=PC h;rw[HQ hy,yU hn]at r2 ⊢;obtain⟨v2,l2,O,_,r3⟩:=r2;have r3:l2=[]:=r3;subst r3;exact⟨x.1,y.1,(H3 h).Y3,A8 2,λ i=>O⟩
theorem p50(BF:R7 B g){XB:WE B T}(XI:wJ BF cl XB){c:C0}(hc:T9 T c=I0)(gd:J1 B A G s)(wY:YR+20<=VZ){cx:I1}{L1 fl:PV}{K5:P0 K0}(r:A4 G W0 L1 K5)(hf:Ah L1=E0 fl):
  U4 B RV F A (ja cx c fl) (W7 (.J0 c) K5) G s:=by
 intro P X M0;obtain⟨k,O,Y6,D8,hki,zP⟩:=MU c hc;obtain⟨m,q,O,bH,hbind⟩:=TN0 hf r;have BS:=EC hA0 IJ.o XI.Io XI.Do (by rw[kn];decide) (by rw[kn];decide);have gdk:=gd;obtain⟨hh,gg,dd,tt,os⟩:=s;refine rM0 (D8 _ EC) hki XI.gv BS kn (by rw[HI];exact BM ‹_› O) ?_;have kp:∀b o,Vf b=E0 o->(BJ hh y4 K5).W5 b=E0 o:=λ b o e=>S6 _ (S6 _ e);have hen:Vf (VA+1)=H0:=NE (LN _);obtain⟨g2,I2⟩:=Mf (o:=.K4) (a:=VA+1) (h':=BJ hh y4 K5) (tk:=tt) kp hen (fs M_) zD;have tH:(o7 .K4 (VA+1)).ρ I3=VA+1:=w3 O;have xF:(BJ hh y4 K5).W5 (VA+1)=E0 (y9 y4 H0 (pQ VA)):=by
  show((hh.y6 _).y6 _).W5 _=_
  heap_get
 have re:F3 (o7 .K4 (VA+1)) (BJ hh y4 K5) (.J0 I3) (.J0 (VA+1)):=⟨rD _,by rw[tH]⟩;have rl:A4 (o7 .K4 (VA+1)) (BJ hh y4 K5) (.A0 (.J0 I3) L1) (.J0 (VA+1)::K5):=⟨_,_,O,re,zA0 r (iU ..) λ b vs n _ e=>kp _ _ e⟩;have apE:s8 B (o7 .K4 (VA+1)) (BJ hh y4 K5) (VA+1):=by
  refine⟨λ x=>?_,NE (fs M_),(SN gd (LN _)).2.2,_,xF⟩;rcases I2.s9 _ x with y|y
  ·exact(SN gd (LN _)).1 y
  ·obtain⟨i,hi,hx,e⟩:=x;rw[fE]at hx;by_cases z:i=I3
   ·rw[w3 z]at hx;exact hx O
   ·rw[u3 z]at hx;have EM:i<I3:=by
     have:i<I3+1:=hi;exact ω63 ‹_› ‹_›
    rw[(iU .K4 (VA+1)).ρ i EM]at e;exact(SN gd (LN _)).1 ⟨i,EM,hx,e⟩
 have ho:=cU hA0 IJ.o XI.Io XI.Do (by rw[kn];decide) (by rw[kn];decide);have hb:=hbind I3;rw[<-XI.pm]at hb;obtain⟨bs,rb,Ku,bt⟩:=IJ.dD cU (λ a ha=>(g2.t70 a ha).1) hb rl;refine oZ (RS0 (by show YR+1<_;exact ω79 ‹_›) ho XI.r00 IJ.co IJ.gen IJ.Gu (IJ.Iu _ cU) ?_);refine bt _ _ _ _ ?_;rw[IJ.Hu];have Ik:J1 B (ZR (.Z4 "type.__call__" ⟨.J0 y4::K5,[]⟩)) (o7 .K4 (VA+1)) ⟨BJ hh y4 K5,gg,dd,tt,os⟩:=jZ g2 S40;refine M40 (A:=(ZR (.Z4 "type.__call__" ⟨.J0 y4::K5,[]⟩)).in1) (L:=XI.xI) (Ik.around O) IJ.aL IJ.YE IJ.lF IJ.zc O IJ.Ju IJ.l6 rb Ku λ N0 s3 EK y8 hfu hmod S5 g3 nD zR hF=>?_;refine⟨Z90 _ g3.eA,LU0 ?_⟩;have Pc:J1 B ((ZR (.Z4 "type.__call__" ⟨.J0 y4::K5,[]⟩)).RW N0) (o7 .K4 (VA+1)) s3:=(jZ (A':=ZR (.Z4 "type.__call__" ⟨.J0 y4::K5,[]⟩)) g3 O).RW hmod y8 zR nD.Ac.2.1;have hgp:E5=(o7 .K4 (VA+1)).av:=O;have Ew:s3.FV (VA+1)=E0 (y9 y4 H0 (pQ VA)):=apE.JC S5 (λ q=>q) xF (by simp) (by simp);have ap3:=apE.J6 S5;refine U3 (ON0 (E:=λ _ _=>I6) BF XI D8 zP EK Pc nD (by rw[tH];exact Ew) (by rw[tH];exact ap3) (λ e=>?_) (λ y c hyc e=>?_) (Q:=λ f s'=>f=.W4/\∃D,Made B ((ZR (.Z4 "type.__call__" ⟨.J0 y4::K5,[]⟩)).RW N0) (o7 .K4 (VA+1)) s3 (VA+1) k (.kv eG m (.kv jK q .B0)) s' D) λ s' D md=>⟨O,D,by rw[tH]at md;exact md⟩) (λ f s' zz=>vN zz λ Wo zz=>wL zz λ D md=>?_) λ _ _ h=>V4
 ·rw[tH]at e;have:=hF LA (.S2 O);rw[e]at J2;rw[show(BJ hh y4 K5).W5 (VA+1)=H0 from J2]at xF;contradiction
 ·rw[tH]at e;obtain⟨u,o,ho,hd⟩:=nD.Si y c hyc;rw[e,Ew]at ho;obtain O:=H3 ho;contradiction
 subst Wo;obtain⟨l,hl,FO⟩:=gdk.fr;have Jk:Z2 B F G ⟨hh,gg,dd,tt,os⟩ (o7 .K4 (VA+1)) s':=by
  have:=((NP S5).D5 (F':=λ b=>b=VA+1) λ _ q=>P6).V2 md.st;refine J2.SG λ b hb=> .L2 ?_;rw[hb];exact hen
 have gA:J1 B A (o7 .K4 (VA+1)) s':=md.gd.Iy hl (Hn Jk.k3);have hD:Vf D=H0:=by
  cases e:Vf D with
  |H0=>rfl
  |E0 o=>
   obtain⟨o',e'⟩:=(NP S5).AE D o e;rw[md.newD]at e';contradiction
 have Cw:D≠VA+1:=λ e=>by
  have:=md.newD;rw[e,Ew]at J2;contradiction
 obtain⟨U2,oD,e1,e2,e3,e4,e5⟩:=md.VJ;obtain⟨gB,stB⟩:=Dm (o:=.V6 (.kv eG m (.kv jK q .B0))) Jk gA hD md.Ek ⟨U2,oD,e1,e2,e3,e4,e5.D5 (Gh.UW0 ..) λ _ _ _ _ e=>e⟩;obtain⟨T1,he⟩:=md.NF;have UN0:s8 B ((o7 .K4 (VA+1)).OB (.V6 (.kv eG m (.kv jK q .B0))) D) T6 (VA+1):=by
  have:=ap3.J6 md.st;exact⟨λ x=>(SN0 x).HB J2.s9 λ e=>Cw Ee,J2.eA,J2.z,J2.e9⟩
 have VN0:(((o7 .K4 (VA+1)).OB (.V6 (.kv eG m (.kv jK q .B0))) D).OB (.J8 cx y4 (I3+1)) (VA+1)).ρ (I3+1)=D:=by
  show(if I3+1=I3+1+1 then _ else if I3+1=I3+1 then D else _)=D;rw[u3 (by omega),w3 O]
 obtain⟨gC,stC⟩:=Dm (o:=.J8 cx y4 (I3+1)) stB gB hen UN0 ⟨pQ T1,by rw[VN0];exact he,by show I3+1<I3+1+1+1;exact MG _ _,⟨_,by
   rw[fE,u3 (by show I3+1≠I3+1+1;omega),fE];exact w3 O⟩,⟨⟨by simp,λ _=>O⟩,.S2 O⟩⟩
 refine⟨O,_,.J0 (I3+2),stC,gC,⟨by show I3+2<I3+1+1+1;exact C0.lt_add_one _,?_⟩,M0⟩;show w6 _=w6 (if I3+2=I3+1+1 then VA+1 else _);rw[w3 O]
end
section
open PyProof.Rows
variable{B:Bs}{A:Around}{G G':Gh}{s s':Shared}{F:Addr->Prop}{FZ:Nat->Bool}
variable{g:Nat->Option PV}{cl:Nat->Nat}{n:Nat}{ih:B5}{T:Tab}{cenv:Env}{L:Kinds}{env:PV}{k:Nat}
theorem WN0(W2:C1)(o:C4):(tv W2 o).O2=F4:=by
 rw[zT0];unfold qS0;obtain⟨c,d,dt,sl⟩:=o;cases dt with
 |H2 es ep=>
  dsimp only;generalize L90 _=r;cases r using Y9<;>rfl
 |_=>rfl
theorem XN0{W2:C1}{o:C4}{es:L4 QN}{ep:C0}(h:F9=.H2 es ep):∃Da Cc,(tv W2 o).L3=.H2 Da Cc:=by
 rw[zT0];unfold qS0;obtain⟨c,d,dt,sl⟩:=o;have h:dt=.H2 es ep:=h;subst h;dsimp only;generalize L90 _=r;cases r using Y9<;>exact⟨_,_,O⟩
theorem YN0{M:UB}{a:H1}{m:C1->Q1 K0}{W2:C1}{Q:I1->D1->Prop}{E:K0->D1->Prop}(hn:s.eZ a m)(hm:(m W2).sL=I0)
  (h:∀h' o o',E3 a=E0 o->C3 a=E0 o'->RK=F4->(∃es ep,X_=.H2 es ep)->TA a W0 h'->Q I0 {s with A3:=h'}):V0 M A (nsDel a W2) Q E s:=by
 obtain⟨o,es,ep,ho,hd,hk,hf⟩:=id hn;have hany:nA0 (·.T7.Fz W2)=I0:=by
  symm;have h1:=hm;rw[<-hf W2]at h1;simp only[Sm,bA0,Q1.isSome_map]at h1;rw[L4.find?_isSome]at h1;obtain⟨x,hx,hp⟩:=h1;obtain⟨i,hi,O⟩:=L4.mem_iff_getElem.mp hx;ext;exact L4.any_eq_true.B8 ⟨i,hi,hp⟩
 have hhas:nsHas W2 o=J4 I0:=by
  rw[nsHas_eq];unfold nsHasByArray;rw[hd];show(if(nA0 λ x=>x.T7.Fz W2)=I0 then _ else _)=_;rw[w3 hany]
 refine S0 (wpAny_loadPart ho ?_);rw[hhas];obtain⟨Da,Cc,aA⟩:=XN0 (W2:=W2) hd;have y8:(tv W2 o).isFreed=R0:=by
  revert aA;generalize tv W2 o=o2;intro q;obtain⟨c,d,dt,sl⟩:=o2;cases q;rfl
 exact S0 (E2 (S0 (wpAny_updatePart ho (E2 (h _ o _ ho (BH _ ho y8) (WN0 W2 o) ⟨Da,Cc,aA⟩ (.GF ..))))))
theorem aV0(ES:j9 N0 L)(gd:J1 B A G s)(er:T5 B N0 D0 O0 G W0){x:C1}(hx:w4 x=I0)(hl:D9 x=E0 .F7){C2:Q3}{Q:S7->D1->Prop}{E:K0->D1->Prop}
  (h:∀s',Z2 B (C5 N0 L) G s G s'->J1 B A G s'->(∀b o,b≠LA->E3 b=E0 o->OL b=E0 o)->Q () s'):V0 R2 A (do lW N0 x .H0;US0 N0 x C2) Q E s:=by
 have kx:=az x hl;have hp:(BP==.class||(BP==.pW&&LA !=PL))=R0:=by rw[aP];rfl
 symm;obtain⟨m,hm,_⟩:=dU;obtain⟨oL,es,ep,eL,dL,-⟩:=id hm;ext;refine S0 (v80 ?_);rw[p80 kx hp];refine Ls hm λ h1 hn1 jH dg=>?_;refine aZ ?_;refine S0 (O90 (S0 ?_));unfold deleteName;rw[kx,hp];refine S0 (YN0 hn1 (by rw[w3 O];rfl) λ h2 o o' ho xR hc hd hs=>?_);refine PI LG ?_;symm;obtain⟨oL1,e1,c1⟩:=dg _ eL;rw[ho]at e1;obtain O:=H3 e1;obtain⟨es2,ep2,d2⟩:=hd;have hH:=jH.V2 hs;obtain⟨g2,I2⟩:=J1.Hs (F:=C5 N0 L) (h':=h2) (tk:=X4+1) gd dP.1 dP.2.1 dP.2.2 (λ b o hb e=>hH.sK b o hb e) ⟨oL,eL,(λ vs n q=>by rw[q]at dL;contradiction),(λ vs q=>by rw[dL]at q;contradiction),o',xR,hc.V2 c1,(λ vs q=>by rw[d2]at q;contradiction)⟩ (.S2 O);ext;exact E2 (O90 (h _ I2 g2 λ b o hb e=>hH.sK b o hb e))
theorem Fw(gd:J1 B A G s){r c d:C0}(hr:r<I3)(hx:O3 r=.J8 I0 c d){j:C0}(hj:j≠1)(hj4:j<=4){v:K0}{Q:S7->D1->Prop}{E:K0->D1->Prop}{A':B6}
  (h:∀s',pM B A G s s'->Q () s'):V0 R2 A' (Pe (.J0 (Y2 r)) j v) Q E s:=by
 obtain⟨vs,he,t⟩:=ZT gd hr hx;have Y7:j<vs.L9:=wa hj4 t.1.1;have IT:=TZ (o:=y9 c (E0 (Y2 d)) vs) O (·.FI j v);have me:=BH (ZZ (·.FI j v)) he (ka IT);have ob:=UL r hr;rw[hx]at ob;obtain⟨_,_,KO,ZQ,_⟩:=ob;have m:=gd.ZA0 (h':=NL (Y2 r) (ZZ (·.FI j v))) (tk:=X4) hr (by rw[hx];simp) (λ b o hb e=>by rw[hM _ _ (E9 hb)];exact e) (by
  rw[hx];refine⟨vs.FI j v,me,KO,ZQ,⟨by simpa using t.1.1,λ q=>by contradiction⟩,?_⟩;have e1:(vs.FI j v)[1]?=vs[1]?:=by simp[hj]
  rw[e1];refine t.2.JM id λ z=>?_;obtain⟨Tb,oT,ts,h1,h2,h3,h4,h5⟩:=z;refine⟨Tb,oT,ts,h1,?_,h3,h4,h5⟩;rewrite [hM _ _ (λ q=>?_)]
  ·exact h2
  ·rw[<-q,he]at h2;obtain O:=H3 h2;contradiction)
 exact DR he O Y7 (h _ ⟨m.1,m.2⟩)
theorem ZN0:BA0 table "proto.unchain"=E0 KA.«proto.unchain»:=AT0 (by kernel_rfl)
theorem aN0{e h:H1}{cx:Q1 H1}{C:H1}{vs:L4 K0}(hh:E3 h=E0 (y9 C cx vs))(h2:vs[2]?=E0 .H0){Q:K0->D1->Prop}{E:K0->D1->Prop}(hq:Q .H0 s):
  V0 R2 A (runValue (.Z4 "proto.unchain" ⟨[.J0 e,.J0 h,.J0 h,.N3 R0],[]⟩)) Q E s:=by
 refine dT0 (KW ZN0 ?_);refine S0 (M7 hh O h2 ?_);first
  |exact E2 hq
  |exact E2 (E2 hq)
theorem bN0(XB:WE B T){x c:X7 K0}{i:C0}(hA:C9=E0 (.J0 (Y2 i)))(hi:i<I3){ci di:C0}(bB:O3 i=.J8 R0 ci di){Q:LJ->D1->Prop}{E:K0->D1->Prop}
  (h:V0 R2 A x (λ v s1=>V0 R2 A c (λ w s2=>w=.H0/\∃G2 r cr dr,v=.J0 (vW r)/\J1 B A G2 s2/\r<Lo/\en r=.J8 I0 cr dr/\T9 T cr=I0/\en i=.J8 R0 ci di/\wN G2/\∀s3,pM B A G2 s2 s3->E v s3) E s1) E s):
  V0 R2 A (Ie N0 (E0 x) (E0 c)) Q E s:=by
 unfold Ie;refine S0 (U3 h (λ v s1 h1=>?_) λ _ _ x=>x);refine S0 (z7 (U3 h1 (λ w s2 h2=>S0 (E2 ?_)) λ _ _ x=>x));symm;obtain⟨O,G2,r,cr,dr,O,g2,hr,qQ,Gw,Hw,le,hE⟩:=h2;obtain⟨k,O,_,D8,_⟩:=MU cr Gw;obtain⟨vs,he,t⟩:=ZT g2 hr qQ;obtain⟨hp,gg,dd,tk,os⟩:=s2;ext;refine S0 (z7 (f50 (D8 _ cU) he ?_));refine S0 (E2 (S0 (Fw g2 hr qQ (by decide) (by decide) λ s3 S5=>S0 (Fw S5.1 hr qQ (by decide) (by decide) λ s4 sA=>?_))));symm;obtain⟨vs4,Lk,t4⟩:=ZT sA.1 hr qQ;obtain⟨hp4,gg4,dd4,tk4,os4⟩:=s4;ext;refine S0 (g50 Lk ?_);refine PI LG ?_;refine S0 (h50 (D8 _ sA.1.eA) Lk ?_);refine S0 (YQ sA.1 ⟨hr,O,_,_,_,qQ⟩ λ s5 DN=>?_);unfold raiseNew;refine S0 (bv ?_);rw[hA];symm;have fX:i<Lo:=U8 hi je;have Y6:vW i≠vW r:=λ q=>by
  have:=g2.bp i r fX hr (by rw[Hw];simp) (by rw[qQ];simp) q;subst J2;rw[Hw]at qQ;cases qQ
 ext;rw[<-BE i hi,w3 (by simpa using Y6)];obtain⟨vsi,hei,ti⟩:=ZT DN.1 fX Hw;refine S0 (z7 (aN0 hei (ti.1.2 O) ?_));refine S0 (Fw (j:=2) (v:=.J0 (vW i)) DN.1 hr qQ (by decide) (by decide) λ s6 Iw=>kZ (hE _ ?_));exact((Yn sA).V2 DN).V2 Iw
end
section
open PyProof.Rows
variable{B:Bs}{A:Around}{G G':Gh}{s s':Shared}{F:Addr->Prop}{FZ:Nat->Bool}
variable{g:Nat->Option PV}{cl:Nat->Nat}{n:Nat}{ih:B5}{T:Tab}{cenv:Env}{L:Kinds}{env:PV}{k:Nat}
theorem q50(BF:R7 B g)(ES:j9 N0 L)(gd:J1 B A G s){x:C1}{C2:Q3}{a:C0}(hn:w4 x=I0)(hl:D7 L x=I0)(hp:g (vc x)=E0 (.Z0 a)){K E:K0->D1->Prop}(hK:K (.J0 a) s):
  V0 R2 A (M5 (.Z3 x C2) N0) K E s:=by
 symm;obtain⟨n1,n2,n3⟩:=xK hn;have q:=Qq hl;obtain⟨v,hv,hr⟩:=BF.Wm x _ hn hp;have hva:v=.J0 a:=hr _ _ EC λ a ha=>(Un a ha).1;subst hva;ext;refine O80 aP (LA0 x q) (kS0 (mg:=QF) ?_ hv hK) n1;rw[qn];exact Om _ EC
theorem cN0(gd:J1 B A G s){i:C0}(hi:i<I3){cx:I1}{c d:C0}(h:O3 i=.J8 cx c d){m:PV}(hm:H4 eG (Vp R1 (O3 i))=E0 m):
  ∃mm u,W0.Fm (Y2 d) mm/\mm "message"=E0 u/\F3 G W0 m u:=by
 symm;have ob:=UL i hi;rw[h]at ob;obtain⟨vs,e,hd,⟨l,hl⟩,_⟩:=ob;have od:=UL d hd;rw[hl]at od;obtain⟨U2,o,eo,hc,hn,nd,r⟩:=od;have hm:H4 eG l=E0 m:=by
  symm;rw[h]at hm;change H4 eG (Up (O3 d))=E0 m at hm;ext;rw[hl]at hm;exact hm
 rw[uv]at hm;rcases vS (xK vv).2.2 r with⟨q1,q2⟩|⟨p,u,q1,q2,ru⟩
 ·ext;rw[hm]at q1;contradiction
 ·rw[hm]at q1;obtain O:=H3 q1;ext;exact⟨_,u,hn,q2,ru⟩
theorem dN0(BF:R7 B g){XB:WE B T}(XI:wJ BF cl XB)(ES:j9 N0 L)(gd:J1 B A G s)(er:T5 B N0 D0 O0 G W0)(wY:YR+20<=VZ){i:C0}(hi:i<I3){cx:I1}{c d:C0}(bB:O3 i=.J8 cx c d)(hc:T9 T c=I0)
  {dn x y:C1}{dp xp ap yp cp:Q3}{dd:C0}(KO:w4 dn=I0)(xP:D7 L dn=I0)(hdg:g (vc dn)=E0 (.Z0 dd))(ZQ:T9 T dd=I0)(hx:w4 x=I0)(Nd:l7 L x=I0)(hxv:H4 (vc x) O0=E0 (.J0 i))
  {m p:PV}(hm:H4 eG (Vp R1 (O3 i))=E0 m)(hy:w4 y=I0)(hyl:l7 L y=I0)(hyv:H4 (vc y) O0=E0 p){P:PV->K1->Prop}{Q:C0->K1->Prop}(M0:(ja I0 dd (.kv eG m (.kv jK p .B0)) R1).P1 P Q):
  V0 R2 A (M5 (.B7 (.Z3 dn dp) [.yC (.Z3 x xp) "message" ap,.Z3 y yp] [] cp) N0) (Po B RV N2 A G s P) (Px B N2 A G s Q) s:=by
 obtain⟨k,O,_,D8,_,zP⟩:=MU c hc;obtain⟨kd,hkd,_,eN0,_,VW0⟩:=MU dd ZQ;have n1:("__getattribute__":C1)∈CN:=.I8 _;have n2:("__getattr__":C1)∈CN:=.w7 _ (.I8 _);have n3:("message":C1)∈CN:=.w7 _ (.w7 _ (.w7 _ (.I8 _)));obtain⟨mm,u,XG,hmu,ru⟩:=cN0 gd hi bB hm;obtain⟨vs,he,_⟩:=ZT gd hi bB;refine mM (q50 BF ES gd KO xP hdg (wI (by rfl) (zI (by rfl) ?_)));have oO:=KJ (X4+1);have Z1:∀{K:K0->D1->Prop}{E:K0->D1->Prop},K u {s with y3:=X4+1}->V0 R2 A (M5 (.yC (.Z3 x xp) "message" ap) N0) K E s:=λ{K E} hK=>by
  refine S0 (si ES.Ti (rI ES er hx Nd hxv λ w gX=>?_));obtain⟨_,O⟩:=gX;obtain⟨hp,gg,dd,tk,os⟩:=s;refine S0 (yA (S0 (z7 (FN0 (D8 _ EC) (zP _ n1) (zW _ n1) (zP _ n2) (zW _ n2) (zP _ n3) (zW _ n3) o50 he XG hmu (Pu ru) ?_))));exact S0 (R80 (E2 hK))
 refine uD (Z1 ?_);have A9:=EI oO.2;refine uD (rI ES A9 hy hyl hyv λ w gX=>GJ ⟨?_,?_⟩)
 ·intro A' Q' E' IM;rw[<-hkd];exact e50 (eN0 _ EC) (IM _ (.L2 (.S2 O)))
 ·exact(p50 (F:=N2) BF XI ZQ oO.1 wY (L1:=.A0 m (.A0 p .B0)) (K5:=[u,w]) ⟨u,[w],O,NK oO.2,w,[],O,gX,O⟩ O).H8 oO.2 M0
end
section
open PyProof.Rows
variable{B:Bs}{A:Around}{G G':Gh}{s s':Shared}{F:Addr->Prop}{FZ:Nat->Bool}
variable{g:Nat->Option PV}{cl:Nat->Nat}{n:Nat}{ih:B5}{T:Tab}{cenv:Env}{L:Kinds}{env:PV}{k:Nat}
theorem r50{α:Type}{what:U6}(gd:J1 B A G s){i:C0}{e:K0}(xi:rG G i e)(tb:qM G W0 i){Q:α->D1->Prop}{E:K0->D1->Prop}{A':B6}(h:∀s',pM B A G s s'->E e s'):V0 R2 A' (EW0 what e N0:X7 α) Q E s:=by
 obtain⟨c,d,vs,Tb,hv,h1⟩:=tb;have Ed:=xi;obtain⟨hi,O,_⟩:=Ed;refine S0 (M7 hv O h1 ?_);have N6:V0 R2 A' (Ge (.J0 (Y2 i)) bW>>=λ _=>(throw (.J0 (Y2 i)):X7 α)) Q E s:=S0 (YQ gd xi λ N7 kC=>kZ (h _ kC));first
  |exact N6
  |exact S0 (E2 N6)
theorem Jw(gd:J1 B A G s){h:Q1 K0}:J1 B (dR h) G s:=h90 O
theorem Kw{h:Q1 K0}(gd:J1 B (dR h) G s):J1 B A G s:=h90 (A:=dR h) O
theorem fN0(BF:R7 B g){XB:WE B T}(XI:wJ BF cl XB)(es:sG A N0 L)(gd:J1 B A G s)(er:T5 B N0 D0 O0 G W0)(wY:YR+20<=VZ){i:C0}(hi:i<I3){c d:C0}(bB:O3 i=.J8 R0 c d)(hc:T9 T c=I0)
  {dn x y:C1}{dp xp ap yp cp np rp C2:Q3}{j:C0}{dd:C0}(KO:w4 dn=I0)(xP:D7 L dn=I0)(hdg:g (vc dn)=E0 (.Z0 dd))(ZQ:T9 T dd=I0)(hx:w4 x=I0)(Nd:D9 x=E0 .F7)
  (hy:w4 y=I0)(hyl:l7 L y=I0)(hxy:x≠y){P:Fl->K1->Prop}{Q:C0->K1->Prop}(M0:(Lq i dd (vc "message") (vc y) O0 R1).P1 P Q){R:tL->D1->Prop}(hR:∀e s',fw R2 A N0 (Px B (C5 N0 L) A G s Q) e s'->R (.ID e) s'):
  FC R2 (dR (E0 (.J0 (Y2 i)))) (.CA0 (.J0 (Y2 i)) [.tD H0 (E0 x) [.ZP (E0 (.B7 (.Z3 dn dp) [.yC (.Z3 x xp) "message" ap,.Z3 y yp] [] cp)) (E0 (.G8 .H0 j np)) rp] C2] N0) R s:=by
 obtain⟨m,hm,M0⟩:=r9 (j6 M0);obtain⟨p,hp,M0⟩:=r9 (j6 M0);have M0:=j6 M0;rw[<-uv]at hm;have NC:x6 L x=I0:=by unfold x6;rw[Nd]
 have sR:l7 L x=I0:=by unfold l7;rw[Nd]
 have ES:=Ch;have gm:J1 B (dR (E0 (.J0 (Y2 i)))) G s:=Jw gd;refine codeAny_handlers_suite_as ?_;refine YQ gm ⟨hi,O,_,_,_,bB⟩ λ s1 pO=>?_;have A9:=EI pO.2;refine aV ES pO.1 A9 hx NC (p:=.J0 i) ⟨hi,O⟩ (λ b q=>q) λ s2 I2 g2 Q6=>?_;have Q6:=Q6.Au (D':=D0) λ y hy=>hy.1;have Od:Z2 B (C5 N0 L) G s G s2:=(pO.2.D5 λ _ q=>P6).V2 I2;refine xA ?_;have tree:((evalOpt (E0 (v0.B7 (.Z3 dn dp) [.yC (.Z3 x xp) "message" ap,.Z3 y yp] [] cp)) N0).Y4 λ x=>(do let v <-x;QI rp;J4 v:X7 K0))=E0 (do let v <-M5 (.B7 (.Z3 dn dp) [.yC (.Z3 x xp) "message" ap,.Z3 y yp] [] cp) N0;QI rp;J4 v):=by rfl
 have XW0:((evalOpt (E0 (v0.G8 .H0 j np)) N0).Y4 λ x=>(do let v <-x;QI rp;J4 v:X7 K0))=E0 (do let v <-M5 (.G8 .H0 j np) N0;QI rp;J4 v):=by rfl
 have main:V0 R2 (dR (E0 (.J0 (Y2 i)))) (Ie N0 (E0 (do let v <-M5 (.B7 (.Z3 dn dp) [.yC (.Z3 x xp) "message" ap,.Z3 y yp] [] cp) N0;QI rp;J4 v)) (E0 (do let v <-M5 (.G8 .H0 j np) N0;QI rp;J4 v)))
   (λ _ _=>I6) (λ e s3=>∃G3 r,Z2 B N2 G s2 G3 s3/\J1 B (dR (E0 (.J0 (Y2 i)))) G3 s3/\rG G3 r e/\Q r y_) s2:=by
  refine bN0 XB (G:=G) (i:=i) O hi bB ?_;refine S0 (U3 (dN0 BF XI ES g2 Q6 wY hi bB hc KO xP hdg ZQ hx sR (by rw[WD,w3 O]) hm hy hyl (by rw[WD,u3 (λ q=>hxy (cO q (xK hy).2.2).Y3)];exact hp) (P:=λ v σ=>∃r,v=.J0 r/\Q r σ/\(∃cr dr,AA r=.J8 I0 cr dr/\T9 T cr=I0)/\AA i=.J8 R0 c d) (Q:=λ _ _=>I6) ?_) (λ v s3 po=>?_) λ e s3 ⟨_,_,_,_,_,h⟩=>V4)
  ·have hQ:Q (I3+2) (((iL .K4).OB (.V6 (.kv eG m (.kv jK p .B0)))).OB (.J8 I0 dd (I3+1))):=M0;refine⟨I3+2,O,hQ,⟨dd,I3+1,?_,ZQ⟩,?_⟩
   ·rw[J_];exact w3 O
   ·rw[J_,u3 (by show i≠I3+1+1;omega),J_,u3 (by show i≠I3+1;omega),J_,u3 (by omega)];exact bB
  ·obtain⟨G3,a,S5,g3,ra,r,O,hQ,⟨cr,dr,Nk,Gw⟩,hi3⟩:=po;obtain⟨hr,O⟩:=ra;refine S0 (yA (E2 (S0 (NN (a:=EF) O (S0 (yA (E2 ?_)))))));exact⟨O,G3,r,cr,dr,O,g3,hr,Nk,Gw,hi3,S5.le,λ s4 kC=>⟨G3,r,Yn kC.2,kC.1,⟨hr,O,_,_,_,Nk⟩,hQ⟩⟩
 refine S0 (yA (U3 main (λ _ _ h=>V4) λ e s3 ⟨G3,r,S5,g3,xi,hQ⟩=>?_));obtain⟨L0,e0,VK,y8,hf,WG⟩:=es.DD;refine bY g3 xi y8 hf (λ s4 Lw tb4=>?_) O WG;have sY:T5 B N0 D0 (z5 (vc x) (.J0 i) O0) G3 QB0:=(Q6.RZ S5).RZ Lw.2;refine aV0 ES Lw.1 sY hx Nd λ s5 DN g5 k5=>?_;have tb5:qM G3 s5.A3 r:=by
  obtain⟨c',d',nC,Tb,hv,h1⟩:=tb4;obtain⟨hr,_,cx',cr,dr,Nk⟩:=xi;exact⟨c',d',nC,Tb,k5 _ _ (λ q=>sY.Ac.1 ⟨r,hr,by rw[Nk];simp,q⟩) hv,h1⟩
 refine r50 g5 xi tb5 λ s6 s50=>?_;refine bY s50.1 xi y8 hf (λ s7 t50 tb7=>hR _ _ ?_) O WG;refine Nv es (λ _ _ h=>h) ⟨G3,r,?_,Kw t50.1,xi,tb7,hQ⟩;have nm:∀{G1 G2:Gh}{s1 s2:D1},Z2 B N2 G1 s1 G2 s2->Z2 B (C5 N0 L) G1 s1 G2 s2:=λ st=>Dn λ _ q=>P6;exact((((Od.V2 (nm S5)).V2 (nm Lw.2)).V2 DN).V2 (nm s50.2)).V2 (nm t50.2)
end
section
open PyProof.Rows
variable{B:Bs}{A:Around}{G G':Gh}{s s':Shared}{F:Addr->Prop}{FZ:Nat->Bool}
variable{g:Nat->Option PV}{cl:Nat->Nat}{n:Nat}{ih:B5}{T:Tab}{cenv:Env}{L:Kinds}{env:PV}{k:Nat}
theorem gN0(BF:R7 B g)(XB:WE B T)(es:sG A N0 L)(gd:J1 B A G s){i:C0}(hi:i<I3){cx:I1}{c d:C0}(bB:O3 i=.J8 cx c d){t:v0}{a:C0}(ha:VH g L t=E0 a)(hoa:T9 T a=I0)(hoc:T9 T c=I0){C2:Q3}{R:tL->D1->Prop}
  (h:R (.ok (if DE (a=c)then .ZB else .W4)) s):FC R2 (dR (E0 (.J0 (Y2 i)))) (.CA0 (.J0 (Y2 i)) [.tD (E0 t) H0 [] C2] N0) R s:=by
 symm;obtain⟨tn,tp,O,h1,h2,h3⟩:=j50 ha;obtain⟨k,O,Y6,D8,_⟩:=MU c hoc;obtain⟨k',O,hne',hN0,_⟩:=MU a hoa;obtain⟨vs,he,_⟩:=ZT gd hi bB;ext;refine codeAny_handlers_test (q50 BF Ch (Jw gd) h1 h2 h3 ?_);obtain⟨hp,gg,dd,tk,os⟩:=s;exact tM0 (D8 _ EC) (hN0 _ EC) hne' he h
theorem Mw(BF:R7 B g)(XB:WE B T)(es:sG A N0 L)(gd:J1 B A G s){i:C0}(hi:i<I3){cx:I1}{c d:C0}(bB:O3 i=.J8 cx c d){t:v0}{a:C0}(ha:VH g L t=E0 a){nm:Q1 C1}{O4:P0 U5}{C2:Q3}{r:P0 tD}{ok:C0->I1}{m:M Fl}{P:Fl->K1->Prop}{Q:C0->K1->Prop}
  (M0:(F1 (w5 77 (ya (O3 i))) (λ d=>kA 77 (ok d) (bif Y1 a d then m else NU T i O0 (cH g L r))) R1).P1 P Q)(MC:ok c=I0->T9 T a=I0/\T9 T c=I0){K:LJ->D1->Prop}{E:K0->D1->Prop}
  (E6:ok c=I0->(m R1).P1 P Q->FC R2 (dR (E0 (.J0 (Y2 i)))) (.CA0 (.J0 (Y2 i)) [.tD H0 nm O4 C2] N0) (λ r q9=>match r with
     |.ok f=>(match nm with
      |H0=>K f q9
      |E0 n=>V0 R2 A (do lW N0 n .H0;US0 N0 n C2) (λ _ JD=>K f JD) E q9)
     |.ID x=>fw R2 A N0 E x q9) s)
  (no:(NU T i O0 (cH g L r) R1).P1 P Q->V0 R2 A (DA0 (.J0 (Y2 i)) N0 r) K E s):V0 R2 A (DA0 (.J0 (Y2 i)) N0 (.tD (E0 t) nm O4 C2::r)) K E s:=by
 have hcls:ya (O3 i)=E0 c:=by rw[bB];rfl
 symm;rw[hcls]at M0;obtain⟨c1,dg,M0⟩:=r9 (j6 M0);obtain O:=H3 dg;obtain⟨hk,M0⟩:=TX M0;obtain⟨k1,k2⟩:=MC hk;ext;refine wpAny_handleBy_cons (gN0 BF XB es gd hi bB ha k1 k2 ?_) (by intro q;contradiction);cases hb:Y1 a c with
 |I0=>
  rw[hb]at M0;rw[w3 (LW (L6 hb))];exact E6 hk M0
 |R0=>
  rw[hb]at M0;rw[u3 λ q=>tA hb (xa q)];exact no M0
theorem iN0(BF:R7 B g){XB:WE B T}(XI:wJ BF cl XB)(es:sG A N0 L)(wY:YR+20<=VZ)(gd:J1 B A G s)(er:T5 B N0 D0 O0 G W0){i:C0}(hi:i<I3){cx:I1}{c d:C0}(bB:O3 i=.J8 cx c d)(tb:qM G W0 i){P:Fl->K1->Prop}{Q:C0->K1->Prop}:
  ∀{hs:P0 tD},(NU T i O0 (cH g L hs) R1).P1 P Q->V0 R2 A (DA0 (.J0 (Y2 i)) N0 hs) (Po B (VE B N0) (C5 N0 L) A G s P) (Px B (C5 N0 L) A G s Q) s:=by
 have nm:∀{G1 G2:Gh}{s1 s2:D1},Z2 B N2 G1 s1 G2 s2->Z2 B (C5 N0 L) G1 s1 G2 s2:=λ st=>Dn λ _ q=>P6;have gm:J1 B (dR (E0 (.J0 (Y2 i)))) G s:=Jw gd;intro hs;induction hs with
 |B0=>exact λ M0=>wpAny_handleBy_nil (r50 gd ⟨hi,O,_,_,_,bB⟩ tb λ s' kC=>⟨G,i,nm kC.2,kC.1,⟨hi,O,_,_,_,bB⟩,M0⟩)
 |A0 h r ih=>
  intro M0;have sh:=YC0 (g:=g) (L:=L) (h:=h) (r:=r);generalize cH g L (h::r)=q at sh M0;cases sh using CH.W9 with
  |M2=>exact B4
  |U1 t c' j cp rp hp a v ha hc=>
   refine Mw BF XB es gd hi bB ha (ok:=λ d=>T9 T a&&T9 T d) (m:=W1 (.U1 v O0)) M0 (λ h=>by rwa [N5]at h) (λ _ M0=>?_) ih;refine PS0 (YQ gm ⟨hi,O,_,_,_,bB⟩ λ s1 pO=>?_);refine xA (Kb (U3 (Dx (F:=N2) pO.1 hc (λ a σ=>a=v/\σ=R1) (λ _ _=>I6) ⟨O,O⟩) (λ w s2 ⟨G2,a2,I2,g2,gX,e1,e2⟩=>?_) λ _ _ ⟨_,_,_,_,_,h⟩=>V4));subst e1;exact⟨G2,.U1 a2 O0,(nm pO.2).V2 (nm I2),Kw g2,gX,by rw[e2];exact M0⟩
  |J20 t el lp rp hp a ha hf=>
   refine Mw BF XB es gd hi bB ha (ok:=λ d=>T9 T a&&T9 T d) (m:=i10 (Q8 (WO g L) el) O0) M0 (λ h=>by rwa [N5]at h) (λ _ M0=>?_) ih;obtain⟨vs,hvs,M0⟩:=r9 (j6 M0);have M0:P (.U1 (.J0 I3) O0) (iL (.M1 vs)):=M0;refine PS0 (YQ gm ⟨hi,O,_,_,_,bB⟩ λ s1 pO=>?_);have A9:=EI pO.2;refine xA (Kb (b90 (U3 (zM0 BF Ch pO.1 A9 hvs (λ a σ=>a=vs/\σ=R1) (λ _ _=>I6) ⟨O,O⟩) (λ ws s2 ⟨G2,a2,I2,g2,r2,e1,e2⟩=>⟨by rw[r2.2];exact Vu hf,?_⟩) λ _ _ ⟨_,_,_,_,_,h⟩=>V4)));subst e1;obtain⟨g3,S5,r3⟩:=g2.WR (tk:=s2.y3) (k:=0) r2.1;exact⟨G2.OB (.M1 a2) s2.og,.U1 (.J0 Lo) O0,((nm pO.2).V2 (nm I2)).V2 (nm S5),Kw g3,r3,by
    show P (.U1 (.J0 Lo) O0) (G2.pi (.M1 a2));rw[e2];exact M0⟩
  |Gb t x d' xp ap y yp cp j np rp hp a dd ha hd h4 h5 h6 h7 h8=>
   obtain⟨dn,dp,O,h1,h2,h3⟩:=j50 hd;refine Mw BF XB es gd hi bB ha (ok:=λ e=>T9 T a&&T9 T e&&T9 T dd) (m:=kA 76 (c10 (O3 i)) (Lq i dd (vc "message") (vc y) O0)) M0 (λ h=>by rw[N5,N5]at h;exact h.1) (λ MC M0=>?_) ih;rw[N5,N5]at MC;obtain⟨hpl,M0⟩:=TX M0;have hcx:cx=R0:=by rw[bB]at hpl;cases cx using n7<;>first|rfl|contradiction
   subst hcx;exact fN0 BF XI es gd er wY hi bB MC.1.2 h1 h2 h3 MC.2 h4 h6 h5 h7 h8 M0 λ e s' h=>h
end
section
open PyProof.Rows
variable{B:Bs}{A:Around}{G G':Gh}{s s':Shared}{F:Addr->Prop}{FZ:Nat->Bool}
variable{g:Nat->Option PV}{cl:Nat->Nat}{n:Nat}{ih:B5}{T:Tab}{cenv:Env}{L:Kinds}{env:PV}{k:Nat}
theorem jN0(g:J1 B A G s){i:C0}{e:K0}(x:rG G i e){fo:Q1 H1}{Q:S7->D1->Prop}{E}(h:∀s',pM B A G s s'->HS RH W0 T6->Q () s'){A':B6}:V0 R2 A' (Ge e fo) Q E s:=by
 obtain⟨cx,c,d,vs,hx,O,hi,he,ht⟩:=Du g x;rcases Eu ht with h1|⟨T,oT,ts,h1,hT,hc,hd,h3,bT⟩
 ·refine S0 (M7 he O h1 ?_);exact E2 (h s ⟨g,.L5 ..⟩ (.L5 _ _))
 ·refine S0 (M7 he O h1 ?_);exact DR hT hd h3 (h _ (g.hs (tk:=X4) (lm bT hT hc hd 3 _)) (lm bT hT hc hd 3 _))
theorem qM.hs{i:C0}{h':O1}(tb:qM G W0 i)(gd:J1 B A G s){e:K0}(xi:rG G i e)(hs:HS RH W0 h'):qM G h' i:=by
 obtain⟨c,d,vs,Tb,hv,h1⟩:=tb;obtain⟨hi,_,cx,c',d',bB⟩:=xi;obtain⟨nC,he,_⟩:=ZT gd hi bB;rw[hv]at he;cases he;exact⟨_,_,vs,Tb,hs.eq hv (by simp) (by simp),h1⟩
theorem kN0{α:Type}{h:C0->K1->I7 α}{P:α->K1->Prop}{X:C0->K1->Prop}{o:I7 α}:(mx h o).P1 P X->WH P (λ i σ=>(h i σ).P1 P X):=by
 induction o with
 |x8 a s=>exact λ x=>x
 |J8 i s=>exact λ x=>x
 |YH n k ih=>exact λ x d hd=>ih d (x d hd)
 |eJ w=>exact λ x=>x
theorem M8.dp{n:C0}(x:M8 n A):YR+20<=VZ:=by have:=Ho;exact ω45 ‹_›
theorem lN0(BF:R7 B g){XB:WE B T}(XI:wJ BF cl XB)(HR:Zv B g cl n ih)(HS:sJ B g cl n ih)(X:F5 B n A N0 L O0 G s){b I4:P0 U5}{h:tD}{hs:P0 tD}{C2:Q3}{k1 k2:C0}(hb:BV b=I0):
  nO B A N0 L (n10 T ih (cS g cl k1 L b) (cH g L (h::hs)) (cS g cl k2 L I4) O0) (.Oo b (h::hs) [] [] C2::I4) G s:=by
 intro P Q M0;have h0:=j6 M0;have h1:(mx (λ i=>NU T i O0 (cH g L (h::hs))) (ZC (cS g cl k1 L b) O0 R1)).P1 (λ f σ=>(lK ih (cS g cl k2 L I4) f σ).P1 P Q) Q:=h0;have h2:=kN0 h1;refine xA (wpAny_Try_except ?_);refine U3 (HR X hb h2) (λ f s1 ⟨G1,fl,D2,g1,rf,hp⟩=>?_) λ e s1 ⟨G1,i,D2,g1,xi,hx⟩=>?_
 ·have N6:=Fd (k:=k2) HS aD SB D2 g1 rf hp;cases f using FH with
  |W4=>exact DP N6
  |_=>exact N6
 ·obtain⟨L0,e0,VK,y8,hf,WG⟩:=SB.DD;refine bY g1 xi y8 hf (λ s2 Ow tb2=>?_) O WG;refine jN0 Ow.1 xi λ s3 u50 rQ=>?_;have tb3:=tb2.hs Ow.1 xi rQ;have S5:Z2 B N2 G s G1 s3:=(AC Ow.2).V2 u50.2;have xY:=W00 (F':=C5 N0 L) λ _ q=>P6;obtain⟨hi,O,cx,c,d,bB⟩:=xi;refine U3 (iN0 BF XI SB aD.dp u50.1 (VL S5) hi bB tb3 hx) (λ f s4 ⟨G4,fl,sA,g4,rf,hp⟩=>?_) λ e s4 px=>O00 xY;have N6:=Fd (k:=k2) HS aD SB (xY.V2 sA) g4 rf hp;cases f<;>exact N6
end
section
open PyProof.Rows
variable{B:Bs}{A:Around}{G G':Gh}{s s':Shared}{F:Addr->Prop}{FZ:Nat->Bool}
variable{g:Nat->Option PV}{cl:Nat->Nat}{n:Nat}{ih:B5}{T:Tab}{cenv:Env}{L:Kinds}{env:PV}{k:Nat}
theorem J1.zg{P:H1}{h':O1}{tk:O6}{ob:C4}(g:J1 B A G s)(hP:P∈CG)(ho:E3 P=E0 ob)(hc:mA0=.H0)(k:∀b o,b≠P->E3 b=E0 o->C3 b=E0 o)(hl:∃o,C3 P=E0 o)(hz:B.JG h'):
  J1 B A G {s with A3:=h',y3:=tk}/\Z2 B N2 G s G {s with A3:=h',y3:=tk}:=by
 have ne:∀{b o},E3 b=E0 o->F4≠.H0->b≠P:=λ e f q=>by rw[q,ho]at e;obtain O:=H3 e;exact f hc
 have k3:UE W0 h':=⟨λ b o ts e c d=>⟨o,ts,k b o (ne e (by rw[c];simp -u4)) e,c,d,O⟩,λ b o e c d=>⟨o,k b o (ne e (by rw[c];simp -u4)) e,c,d⟩,λ b o e c=>k b o (ne e (by rw[c.1];simp -u4)) e⟩;have Q0:zB E5 W0 h':=λ b vs n _ e=>k _ _ (ne e (by simp -u4)) e;have mN0:∀i,i<I3->O3 i≠.K4->Y2 i≠P:=λ i hi hn q=>by
  obtain⟨o,e⟩:=Sn P hP;have:=vC i hi hn;rw[q,e]at J2;contradiction
 obtain⟨l,hlf,hf⟩:=SJ;have AE:∀b o,E3 b=E0 o->∃o',C3 b=E0 o':=λ b o e=>by
  by_cases q:b=P
  ·rw[q];exact hl
  ·exact⟨o,k _ _ q e⟩
 refine⟨⟨FE,⟨QG,λ j hj=>?_,XL,vC,λ a ha=>⟨(xD a ha).1,by obtain⟨o,e⟩:=(xD a ha).2;exact AE a o e⟩⟩,λ b o e h1 h2 h3=>k _ _ (λ q=>h1 (q▸hP)) (QB b o e h1 h2 h3),
  hz,l,hlf,Pf k3⟩,⟨h',tk,O⟩,.L5 G,λ b x=> .S2 x,AE,λ b o e _ _ h3=>⟨o,k _ _ (λ q=>h3 (q▸hP)) e,.L5 o⟩,Q0,k3⟩
 by_cases ha:O3 j=.K4
 ·rw[ha];trivial
 ·exact(GA j hj).D5 (.L5 G) Q0 k3 (λ ob e=>k _ _ (mN0 j hj ha) e) λ d l _ e=>⟨l,e⟩
structure rV(BF:R7 B g)where
 bm:H1
 o:C4
 n8:QF "__builtins__"=E0 (.J0 bm)
 n1:bm≠aW
 n2:bm≠HP
 l9:PG bm=E0 o
 O2:F4=.U0 "module"
 H2:mU=E0 aW
 L3:F9=.uF
 z1:bm∉CG
 z2:HP∉CG
noncomputable abbrev Pw(W2 qB:C1)(tC:GK)(O4:uV0)(sc:BB)(BO:P0 (C1×H1))(pm ND ct:K0):LH:=
 {W2,JK:=qB,tC,O4,Z8:=sc,YE:=HP,ZN:=BO,KK:=.H0,YW:=.H0,tP:=.H0,Je:=pm,Ul:=H0,YA:=ND,ec:=ct,lF:=aW}
theorem v50(BF:R7 B g)(MB:rV BF)(ES:j9 N0 L)(gd:J1 B A G s)(iR:B.Ji N0.YA){W2 qB:C1}{tC:GK}{O4:uV0}{sc:BB}{BO:P0 (C1×H1)}{C2:Q3}{fl:C0}
  (YG:Zl sc N0=J4 BO)(hdoc:∀b,O4=.vD b->G_ b=H0){Q:K0->D1->Prop}{E:K0->D1->Prop}
  (h:∀a s' pm ND LE q,Z2 B N2 G s G s'->J1 B A G s'->P2<=a->OL a=E0 {O2:=.U0 "function",L3:=.UG (Pw W2 qB tC O4 sc BO pm ND LE)}->nJ T6 ND q->Q (.J0 a) s'):
  V0 R2 A (makeFunction W2 qB tC O4 sc N0 [] [] [] C2 fl) Q E s:=by
 obtain⟨c,P,ps,hc,hcc,htab,Qw,Dg⟩:=B.zfn iR gd.JG;have hg:=Om _ EC;have hbo:=EC _ _ MB.l9 MB.z1 (by rw[ym];decide) (by rw[ym];decide);have Y6:MB.bm≠P:=λ q=>MB.z1 (q▸Qw);have hgP:HP≠P:=λ q=>MB.z2 (q▸Qw);have hPo:=htab.2;rw[makeFunction_eq];simp -u4 only[eT0,P0.filterMap_nil,P0.pv,mW,s90];unfold makeTail;rw[YG];refine S0 (E2 ?_);have tP:∀{s:D1}{N:K0->X7 K0},V0 R2 A (N .H0) Q E s->V0 R2 A (match O4 with|.vD b=>(match G_ b with|E0 s=>Wy s|H0=>J4 .H0)>>=N|.A6 _=>J4 .H0>>=N) Q E s:=λ{s N} hk=>by
  cases O4 with
  |vD b=>
   show V0 R2 A ((match G_ b with|E0 s=>Wy s|H0=>J4 .H0)>>=N) Q E s;rw[hdoc b O];exact S0 (E2 hk)
  |A6 e=>exact S0 (E2 hk)
 have w7:∀{LE ND:K0}{q:C1}{s2:D1},Z2 B N2 G s G s2->J1 B A G s2->P2<=s2.og->nJ IN ND q->
   V0 R2 A (kU0 PL N0.lF) (λ bs s3=>V0 R2 A (nsGet PL "__name__") (λ pm s4=>V0 R2 A (match O4 with|.vD b=>(match G_ b with|E0 s=>Wy s|H0=>J4 .H0)>>=(λ dc=>Xy (.U0 "function") (.UG {W2,JK:=qB,tC,O4,Z8:=sc,YE:=PL,ZN:=BO,ec:=LE,YA:=ND,lF:=bs,KK:=.H0,YW:=.H0,Ul:=H0,Je:=R00 .H0,tP:=dc}))|.A6 _=>J4 .H0>>=(λ dc=>Xy (.U0 "function") (.UG {W2,JK:=qB,tC,O4,Z8:=sc,YE:=PL,ZN:=BO,ec:=LE,YA:=ND,lF:=bs,KK:=.H0,YW:=.H0,Ul:=H0,Je:=R00 .H0,tP:=dc}))) Q E s4) E s3) E s2:=λ{LE ND q s2} I2 g2 hz2 nN0=>by
  have Pk:=Om _ cU;have oN0:=cU _ _ MB.l9 MB.z1 (by rw[ym];decide) (by rw[ym];decide);rw[qn];refine wpAny_builtinsFor Pk MB.n8 MB.n1 oN0 ym MB.H2 MB.L3 ?_;refine jU0 Pk ?_;refine tP ?_;obtain⟨g3,S5⟩:=vA0 (h':=s2.so {O2:=.U0 "function",L3:=.UG (Pw W2 qB tC O4 sc BO ((QF "__name__").gI .H0) ND LE)}) (tk:=s2.y3) (λ b o e=>rA _ _ _ _ e);exact DH (h _ _ _ _ _ q (NP S5) g3 hz2 (BA _ O) (nN0.at λ b o e _=>rA _ _ _ _ e)) (by size_fits)
 have YA:∀{LE:K0}{s1:D1},Z2 B N2 G s G s1->J1 B A G s1->P2<=B9->(∀b o,E3 b=E0 o->FJ b=E0 o)->V0 R2 A (functionCode N0 C2 fl W2 qB tC sc O4) (λ ND s2=>
   V0 R2 A (kU0 PL N0.lF) (λ bs s3=>V0 R2 A (nsGet PL "__name__") (λ pm s4=>V0 R2 A (match O4 with|.vD b=>(match G_ b with|E0 s=>Wy s|H0=>J4 .H0)>>=(λ dc=>Xy (.U0 "function") (.UG {W2,JK:=qB,tC,O4,Z8:=sc,YE:=PL,ZN:=BO,ec:=LE,YA:=ND,lF:=bs,KK:=.H0,YW:=.H0,Ul:=H0,Je:=R00 .H0,tP:=dc}))|.A6 _=>J4 .H0>>=(λ dc=>Xy (.U0 "function") (.UG {W2,JK:=qB,tC,O4,Z8:=sc,YE:=PL,ZN:=BO,ec:=LE,YA:=ND,lF:=bs,KK:=.H0,YW:=.H0,Ul:=H0,Je:=R00 .H0,tP:=dc}))) Q E s4) E s3) E s2) E s1:=λ{LE s1} D2 g1 hz1 k1=>by
  have Rw:=hcc.tW k1;have w50:=htab.tW k1;cases hf:qZ C2 Y00 with
  |E0 c'=>
   obtain⟨q,hq⟩:=Dg C2 c' hf;exact wpAny_functionCode_hit hc Rw hf (w7 D2 g1 hz1 (hq.at λ b o e _=>k1 b o e))
  |H0=>
   refine wpAny_functionCodeX hc Rw w50 hf λ c' h2 tk hx hge VF hc2 ao ht2 zz=>fU zz λ P' _ _ htc=>?_;have ao:nJ h2 (.J0 c') qB:=by
    obtain⟨c1,o1,vs1,t1,e1,g1',d1,r1⟩:=ao;cases e1;symm;obtain⟨⟨o2,vs2,Ik,cc,_⟩,_⟩:=htc;rw[g1']at Ik;obtain O:=H3 Ik;ext;exact⟨_,_,_,_,O,g1',cc,d1,r1⟩
   have hz2:B.JG h2:=B.O30 iR hc g1.JG Rw hx hge hc2 ht2 ao;obtain⟨g2,I2⟩:=g1.zg (tk:=tk) Qw w50.2 O hx ⟨_,ht2.2⟩ hz2;exact w7 (AC I2) g2 (W6 hz1 (W6 hge (GP VF))) ao
 cases UF:BO.WL with
 |I0=>
  refine S0 (E2 ?_);exact S0 (U3 (YA (LE:=.H0) (.L5 ..) gd (A8 _) λ _ _ e=>e) (λ _ _ h=>S0 (U3 h (λ _ _ h=>S0 (U3 h (λ _ _ h=>h) λ _ _ x=>x)) λ _ _ x=>x)) λ _ _ x=>x)
 |R0=>
  refine PI LG ?_;refine S0 (wpAny_newTextTuple ?_);obtain⟨g1,D2⟩:=Zn (h':=F8 {O2:=.U0 "tuple",H2:=H0,L3:=.V5 ((BO.mergeSort λ a b=>DE (a.1.fK.XE<=b.1.fK.XE)).Y4 (λ x=>w6 x.2)).N8}) (tk:=X4) (λ b o e=>rA _ _ _ _ e);exact S0 (U3 (YA (LE:=.J0 P2) D2 g1 (by rw[TD];exact MG _ _) λ b o e=>rA _ _ _ _ e) (λ _ _ h=>S0 (U3 h (λ _ _ h=>S0 (U3 h (λ _ _ h=>h) λ _ _ x=>x)) λ _ _ x=>x)) λ _ _ x=>x)
end
section
open PyProof.Rows
variable{B:Bs}{A:Around}{G G':Gh}{s s':Shared}{F:Addr->Prop}{FZ:Nat->Bool}
variable{g:Nat->Option PV}{cl:Nat->Nat}{n:Nat}{ih:B5}{T:Tab}{cenv:Env}{L:Kinds}{env:PV}{k:Nat}
theorem pN0{a:GK}{b:P0 U5}{sc:BB}(h:GY L a b sc=I0):∃as,a=⟨[],as,H0,[],[],H0,[]⟩/\(∀x∈as,C90=H0)/\G_ b=H0/\∀k∈u5,k.2=.i7->D9 k.1=E0 .l6:=by
 unfold GY at h;simp only[N5,vR0,Option.isNone_iff_eq_none,hU0,yO,X80,Nz,DU]at h;exact⟨l00,u10 h.1,h.2.1.1,h.2.1.2,λ k hk q=>(h.2.2 k hk).HB (λ z=>T3 q z) id⟩
theorem qN0:∀{as:P0 wR},(∀x∈as,C90=H0)->AU0 as N0=[]:=by
 intro zq;induction zq with
 |B0=>
  intro _;exact O
 |A0 pq r ih=>
  intro h;obtain⟨x,an,p⟩:=pq;have h1:an=H0:=h ⟨x,an,p⟩ (TE ..);subst h1;exact ih λ y hy=>h y (yB _ hy)
theorem J1.Sw{a:H1}(gd:J1 B A G s)(st:Z2 B F G s G s')(g':J1 B A G s')(ha:P2<=a)(he:∃o,OL a=E0 o):J1 B A (o7 .K4 a) s'/\Z2 B F G s (o7 .K4 a) s'/\F3 (o7 .K4 a) T6 (.J0 I3) (.J0 a):=by
 have na:=SN gd ha;obtain⟨g2,I2⟩:=Dm (o:=.K4) st g' (NE ha) ⟨na.1,na.2.1,na.2.2,he⟩ zD;exact⟨g2,I2,rD _,G6 w6 (w3 O).Y3⟩
theorem rN0{BF:R7 B g}(MB:rV BF)(HS:sJ B g cl n ih)(X:F5 B n A N0 L O0 G s){x:C1}{a:GK}{b I4:P0 U5}{sc:BB}{C2:Q3}{k2:C0}(hx:w4 x=I0)(hl:x6 L x=I0)(hd:GY L a b sc=I0):
  nO B A N0 L (F1 (Q9 .K4) λ f=>ZC (cS g cl k2 L I4) (z5 (vc x) f O0)) (.AU x a b [] H0 [] sc H0 x C2::I4) G s:=by
 intro P Q M0;have M0:(ZC (cS g cl k2 L I4) (z5 (vc x) (.J0 I3) O0) (iL .K4)).P1 P Q:=M0;obtain⟨as,O,h1,h2,h3⟩:=pN0 hd;obtain⟨cs,YG,_⟩:=N50 (R9:=N0) (sc:=sc) λ y hy q=>X.Jo _ (SB.l6 _ (h3 y hy q));refine xA ?_;have ha:annTrees ⟨[],as,H0,[],[],H0,[]⟩ H0 N0=[]:=by
  show AU0 (as++[]++[]++[]++[]) N0++[]=[];simp only[lv];exact qN0 h1
 rw[exec_def,ha];refine S0 (yA (S0 (z7 ?_)));refine S0 (E2 (S0 (z7 (E2 (z7 (S0 (E2 ?_)))))));refine v50 BF MB II VB X.Kg YG (λ b' q=>by cases q;exact h2) λ f s1 pm ND LE q D2 g1 hf xF _=>?_;obtain⟨g2,I2,r2⟩:=VB.Sw D2 g1 hf ⟨_,xF⟩;have Q6:=VL I2;refine S0 (yA (S0 (v80 (aV II g2 Q6 hx hl r2 (λ b q=>q) λ s3 S5 g3 nD=>E2 ?_))));exact(HS (k:=k2) (st:=I4) aD SB g3 (nD.Au λ y hy=>hy.1)).H8 ((kL λ _ q=>P6).V2 S5) M0
def sQ(h:O1)(a:H1):Prop:=∃(W2 qB:C1) (tC:GK) (O4:v0) (sc:BB) (pm ND LE:K0) (q:C1),PS tC O4 sc=I0/\B3 a=E0 {O2:=.U0 "function",L3:=.UG (Pw W2 qB tC (.A6 O4) sc [] pm ND LE)}/\nJ h ND q
theorem x50{a:GK}{b:v0}{sc:BB}(h:PS a b sc=I0):∃x y z p1 j p2 p3,a=⟨[],[x,y,z],H0,[],[],H0,[]⟩/\b=.xC (.Z3 aK p1) (.G8 (.j0 2) j p2) p3/\w4 aK=I0/\r_≠aK/\aK≠VX/\r_≠VX/\
  Of=.pF/\sc.Md=R0/\sc.bd=R0/\(∀k∈u5,k.2=.F7)/\UC r_=E0 .F7/\UC aK=E0 .F7/\UC VX=E0 .F7:=by
 symm;unfold PS at h;rw[N5]at h;obtain⟨h0,h⟩:=h;have e1:=u10 h0;cases ha:Vq l00 with
 |H0=>
  ext;rw[ha]at h;contradiction
 |E0 q=>
  obtain⟨x,y,z⟩:=q;rw[ha]at h;rw[yB0 ha]at e1;cases hb:Nh b with
  |H0=>
   ext;rw[hb]at h;contradiction
  |E0 n=>
   rw[hb]at h;obtain⟨p1,j,p2,p3,O⟩:=AC0 hb;have h:fq x y z n sc=I0:=h;unfold fq at h;simp only[N5,DU,yO,X80,Nz,vR0]at h;obtain⟨O,h3,h4,h5,h6,h7,h8,h9,sV,jX,FS,Pd⟩:=h;ext;exact⟨x,y,z,p1,j,p2,p3,e1,O,h3,h4,h5,h6,BC0 h7,h8,h9,sV,jX,FS,Pd⟩
theorem sN0{BF:R7 B g}(MB:rV BF)(LB:UU=λ _=>sQ)(X:F5 B n A N0 L O0 G s){a:GK}{b:v0}{sc:BB}{C2:Q3}{j:C0}(MC:PS a b sc=I0):
  U4 B RV N2 A (Q9 (.lA j)) (M5 (.Ry a b sc C2) N0) G s:=by
 intro P Q M0;symm;have M0:P (.J0 I3) (iL (.lA j)):=M0;obtain⟨x,y,z,p1,i,p2,p3,O,O,_,_,_,_,_,_,_,dQ,_⟩:=x50 MC;ext;have YG:Zl sc N0=J4 []:=closureFor_none λ k hk q=>by rw[dQ k hk]at q;contradiction
 refine S0 (E2 (S0 (z7 (E2 ?_))));refine v50 BF MB II VB X.Kg YG (λ b' q=>by contradiction) λ f s1 pm ND LE q D2 g1 hf xF Dg=>?_;symm;have na:=SN VB hf;obtain⟨g2,I2⟩:=Dm (o:=.lA j) D2 g1 (NE hf) ⟨na.1,na.2.1,na.2.2,_,xF⟩ (by
  show UU j pE f;rw[LB];exact⟨_,_,_,_,_,pm,ND,LE,q,MC,xF,Dg⟩)
 ext;exact .at (R:=RV) (a:=.J0 I3) I2 g2 ⟨rD _,G6 w6 (w3 O).Y3⟩ M0
end
section
theorem Tw{y7:P0 C1}(nd:y7.GD):∀{K5:P0 K0}{x:C1},((GU K5).X9 x).aE=I0↔x∉t00 CK:=by
 induction y7 with
 |B0=>intro K5 x;simp
 |A0 y r ih=>
  rw[CP]at nd;intro K5 x;cases K5 using c5 with
  |B0=>simp
  |A0 v vs=>
   rw[EW,BR,EJ,KT0];cases h:x==y with
   |I0=>simp[YD h]
   |R0=>
    have Y6:x≠y:=by simpa using h
    dsimp only;rw[ih nd.2];simp[Y6]
theorem tN0{y7:P0 C1}(nd:y7.GD):∀{K5:P0 K0},CK=y7.L7->∀(GO:P0 (C1×K0)),(∀x∈y7,GO.X9 x=H0)->y7.UV (λ n=>((GO++GU K5).X9 n).Y4 (n,·))=GU K5:=by
 induction y7 with
 |B0=>intro K5 h GO _;simp
 |A0 y r ih=>
  rw[CP]at nd;intro K5 h GO hp;cases K5 using c5 with
  |B0=>contradiction
  |A0 v vs=>
   rw[EW];have e1:(GO++(y,v)::zn vs).X9 y=E0 v:=by
    rw[r80,hp y (TE ..)];simp
   rw[H80 (b:=(y,v)) (by rw[e1];rfl)];have e2:GO++(y,v)::zn vs=(GO++[(y,v)])++zn vs:=by simp
   rw[e2,ih nd.2 (by simpa using h) (GO++[(y,v)]) λ x hx=>by
    rw[r80,hp x (yB _ hx)];have:x≠y:=λ q=>nd.1 (q▸hx);simp[J2]]
theorem uN0{y7:P0 C1}(nd:y7.GD)(f:C1×K0->P0 (C1×K0)->X7 (kl (P0 (C1×K0))))(hf:∀n d u,f (n,d) u=if(u.X9 n).aE=I0 then J4 (.rW (u++[(n,d)]))else J4 (.rW u)):
  ∀(ln:P0 C1)(D:P0 K0)(q:C0)(V:P0 K0),y7.SG q=ln->D.L7=ln.L7->q<=UR->UR<=y7.L7->Cf (ln.r8 D) (GU V) f=J4 (GU (V++D.SG (UR-q))):=by
 intro zq;induction zq with
 |B0=>
  intro D q V h hD h1 h2;cases D using c5 with
  |B0=>simp
  |A0=>contradiction
 |A0 y r ih=>
  intro D q V h hD h1 h2;cases D using c5 with
  |B0=>contradiction
  |A0 d D'=>
   have de:y7=t00 q++y::r:=by rw[<-h,P0.take_append_drop]
   have hr:y7.SG (q+1)=r:=by rw[<-AV0,h];rfl
   have hql:q<y7.L7:=by
    rw[de,P0.z80,EJ,TU0];have:q<=y7.L7:=W6 h1 h2;exact ω52 ‹_›
   rw[EW,JW,hf];by_cases hq:q<UR
   ·have Ea:y∈t00 UR:=by
     have:y7[q]?=E0 y:=by
      have:=G6 (λ l=>l[0]?) h;simpa using J2
     rw[P0.mem_take_iff_getElem];obtain⟨VF,e⟩:=jp J2;exact⟨q,by exact ω68 ‹_› ‹_›,e⟩
    rw[u3 (λ z=>(Tw nd).mp z Ea),s90];show Cf (zn D') (GU V) f=_;rw[ih D' (q+1) V hr (by simpa using hD) hq h2];have e:UR-q=(UR-(q+1))+1:=by exact ω15 ‹_›
    rw[e,MT0]
   ·have e:UR=q:=by exact(C0.I90 ‹_› (C0.C80 ‹_›)).Y3
    have hout:y∉t00 UR:=by
     rw[e];intro z;have nd':=nd;rw[de]at nd';have:=(P0.nodup_append.mp nd').2.2 y z y (TE ..);exact J2 O
    rw[w3 ((Tw nd).B8 hout),s90];have e2:GU V++[(y,d)]=GU (V++[d]):=by
     have e3:∀(l:P0 C1)(V:P0 K0)(m:P0 C1),HJ=UR->(l++y::m).r8 V++[(y,d)]=(l++y::m).r8 (V++[d]):=by
      intro l;induction l with
      |B0=>intro V m h;cases V using c5 with
       |B0=>cases m using c5<;>rfl
       |A0=>contradiction
      |A0 a l ih=>intro V m h;cases V using c5 with
       |B0=>contradiction
       |A0 v V=>simp only[zt,EW];rw[ih V m (by simpa using h)]
     rw[de];exact e3 _ V r (by rw[TU0,e];exact pj (GP ‹_›))
    show Cf (zn D') (GU V++[(y,d)]) f=_;rw[e2,ih D' (q+1) (V++[d]) hr (by simpa using hD) (by simp;omega) (by simp;exact ω69 ‹_› ‹_› ‹_›)];simp[e]
theorem y50{s:D1}{fd:LH}{as:P0 wR}{kd:P0 (Q1 v0)}{ds:P0 v0}{K5:P0 K0}{G5:L4 K0}(hp:NR=⟨[],as,H0,[],kd,H0,ds⟩)(nd:(PJ (·.TG)).GD)
  (hd:∀(M:UB)(A:B6)(E:K0->D1->Prop)(Q:Q1 (L4 K0)->D1->Prop),(∀r,r.gI #[]=G5->Q r s)->V0 M A (ql fd.KK) Q E s)
  (h1:CK<=d_)(h2:d_<=CK+LR)(h3:LR<=d_):
  BindsTo s fd ⟨K5,[]⟩ ((PJ (·.TG)).r8 (K5++Kj (LR-(d_-CK)))):=by
 intro M A E Q hq;obtain⟨f1,f2,prm,f4,f5,f6,f7,Qk,f9,f10,f11,f12,f13,f14⟩:=fd;have hp:prm=_:=hp;subst hp;have hl:DW=LR:=qr;have hn:(PJ (·.TG)).L7=d_:=uj ..;have hz:Kj (DW-(PJ (·.TG)).L7)=s70:=by rw[show DW-(PJ (·.TG)).L7=0 from hl▸hn▸ω27 h3,Q90]
 have hmiss:(P0.Lm (λ n=>(((PJ (·.TG)).r8 K5).X9 n).aE) ((PJ (·.TG)).vL ((PJ (·.TG)).L7-DW)))=[]:=by
  rw[P0.filter_eq_nil_iff];intro x hx z;refine(Tw nd).mp z ?_;have:(PJ (·.TG)).L7-DW<=CK:=by rw[hl,hn];omega
  exact(P0.take_sublist_take_left J2).subset hx
 have e:CK-((PJ (·.TG)).L7-DW)=LR-(d_-CK):=by rw[hl,hn];exact ω8 ‹_› ‹_›
 have hfm:=tN0 nd (K5:=K5++P0.SG (LR-(d_-CK)) s70) (by simp;exact ω13 ‹_› ‹_›) [] (λ _ _=>O);have z50:=uN0 nd (λ x u=>if(u.X9 x.1).aE=I0 then J4 (.rW (u++[(x.1,x.2)]))else J4 (.rW u)) (λ n d u=>O) (P0.SG ((PJ (·.TG)).L7-DW) (PJ (·.TG))) s70 ((PJ (·.TG)).L7-DW) K5 O (by simp;exact ω32 ‹_›) (by rw[hl,hn];omega) (by rw[hn];exact h1);have c1:¬((DE (CK>(PJ (·.TG)).L7)&&(H0:Q1 wR).aE)=I0):=by rw[hn];simp;omega
 rw[e]at z50;rw[<-hfm]at hq;unfold vV0;dsimp only[wV0,G90,ik];refine S0 (E2 ?_);refine S0 (hd M A E _ λ r hr=>?_);clear hd h1 h2 h3 nd;rw[hr];dsimp only;rw[hz];refine PI c1 ?_;refine PI (by rw[hmiss];exact LG) ?_;refine S0 (NN z50 ?_);refine S0 (E2 ?_);refine PI LG ?_;refine E2 ?_;refine(?_:Q (P0.UV _ (PJ (·.TG)++[])) s);rw[lv];exact hq
end
section
variable{B:Bs}{A:Around}{G G':Gh}{s s':Shared}{F:Addr->Prop}{FZ:Nat->Bool}
variable{g:Nat->Option PV}{cl:Nat->Nat}{n:Nat}{ih:B5}{T:Tab}{cenv:Env}{L:Kinds}{env:PV}{k:Nat}
theorem vN0{M:UB}(hfn:BP=.pF)(f:C1×K0->Bf->X7 (kl Bf))(hf:∀n v u,f (n,v) u=(do jl N0 n v;J4 (.rW ⟨⟩))):
  ∀{dD:P0 (C1×K0)}{m:C1->Q1 K0}{s:D1}{Q:Bf->D1->Prop}{E:K0->D1->Prop},s.eZ LA m->(∀b∈dD,zA b.1=E0 .F7)->
   (∀h' tk,dm LA (λ x=>(mi x).or (m x))->TA LA W0 h'->(∀o,E3 LA=E0 o->∃o',C3 LA=E0 o'/\RK=F4)->Q ⟨⟩ {s with A3:=h',y3:=tk})->
   V0 M A (Cf dD ⟨⟩ f) Q E s:=by
 intro zq;induction zq with
 |B0=>
  intro m s Q E hn hl h;exact E2 (h W0 X4 (by simpa using hn) (.L5 ..) λ o e=>⟨o,e,O⟩)
 |A0 pq r ih=>
  intro m s Q E hn hl h;obtain⟨x,v⟩:=pq;have hp:(BP==.class||(BP==.pW&&LA !=PL))=R0:=by rw[hfn];rfl
  rw[JW,hf];refine S0 (S0 ?_);rw[p80 (hl (x,v) (TE ..)) hp];refine Ls hn λ h1 hn1 jH dg=>E2 ?_;refine ih hn1 (λ b hb=>hl b (yB _ hb)) λ h2 tk bX hH hc2=>h h2 tk ?_ (jH.V2 hH) λ o e=>?_
  ·have e:(λ y=>(r.AS0 y).or (if y=x then E0 v else m y))=λ y=>(((x,v)::r).RL.X9 y).or (m y):=Tm λ y=>by
    rw[t80,r80];cases r.AS0 y using Y9 with
    |E0 w=>rfl
    |H0=>
     by_cases q:y=x
     ·subst q;simp
     ·have q':(y==x)=R0:=by simpa using q
      simp[BR,q',q]
   rw[<-e];exact bX
  ·obtain⟨o1,e1,c1⟩:=dg o e;obtain⟨o2,e2,c2⟩:=hc2 o1 e1;exact⟨o2,e2,c2.V2 c1⟩
theorem wN0{K3:YN}{w:M4}{R:tL->D1->Prop}{a:H1}{L1:Args}{o:C4}{fd:LH}{O4:v0}{q:C1}(hroom:YR<VZ)(ho:E3 a=E0 o)
  (aA:F9=.UG fd)(hco:GT.bd=R0)(hgen:GT.Md=R0)(Rz:FB0=.A6 O4)(hcd:W0.Gy HX q)
  (h:V0 (T4 K3 w) pB (vV0 fd L1) (λ dD M6=>
   V0 (T4 K3 w) pB (ub GT rn fd.ZN dD (q++".<locals>.") (E0 a) HX H0 Co)
    (λ O0 q9=>q9.A3.NoLimit/\FC (T4 K3 w) A (.A6 O4 O0) R q9) (λ e s'=>R (.ID e) s') M6) (λ e s'=>R (.ID e) s') s):
  FC (T4 K3 w) A (.K2 (.J0 a) L1) R s:=by
 refine UZ ?_;show V0 _ pB (SA0 (.J0 a) L1) _ _ s;refine S0 (Wl ho ?_);obtain⟨c,oc,vs,tq,hc,hoc,hdc,hq⟩:=hcd;dsimp only;rw[aA];dsimp only;unfold callFunction;rw[hco,hgen,Rz,hc];dsimp only;rw[hc]at h;refine S0 (m:=KC (.J0 c) 1) (M7 hoc hdc hq (S0 (E2 ?_)));exact S0 (U3 h (λ dD M6 j5=>S0 (U3 j5 (λ O0 q9 r7=>S0 (wpAny_enterFrame r7.1 hroom
  (E2 (DM.intro O r7.2)))) λ _ _ h'=>h')) λ _ _ h'=>h')
theorem xN0{sc:BB}{YE bi:H1}{dD:P0 (C1×K0)}{qB:C1}{fn:Q1 H1}{YA:K0}{Q:o6->D1->Prop}{E:K0->D1->Prop}(hk:Of=.pF)(hc:∀x∈u5,x.2≠.l6)(hl:∀b∈dD,UC b.1=E0 .F7)
  (h:∀N0 h' tk,cenv.scope=sc->LA=P2->bW=E0 P2->dm P2 (λ x=>mi x)->(∀b o,E3 b=E0 o->C3 b=E0 o)->
   (∃o,C3 P2=E0 o/\F4=.U0 "frame"/\∀vs,F9≠.R5 vs)->Q N0 {s with A3:=h',y3:=tk}):
  V0 (T4 bE kE) A (ub sc YE [] dD qB fn YA H0 bi) Q E s:=by
 simp only[ub,Q1.isSome_none,vr,uZ];refine S0 (ZU0 ?_);refine S0 (VT0 _ (λ W2 aL rT=>by cases aL==FR<;>simp) _ _ _ _ ?_);have ET:=KU0 u5 (F8 {O2:=.U0 "frame",L3:=.H2 #[]}) (P2+1) [] ⟨λ _ _ hm=>(nomatch hm),aU0⟩ (by rw[TD];exact A8 _);rw[TD]at ET;rw[show({s with A3:=F8 {O2:=.U0 "frame",L3:=.H2 #[]}}:D1).A3.SC.L9=P2+1 from TD ..];generalize UF:Tx (P2+1) u5 []=rT at ET ⊢;generalize cV:OV0 (F8 {O2:=.U0 "frame",L3:=.H2 #[]}) u5=hp at ET ⊢;have kp:∀b o,E3 b=E0 o->Tf b=E0 o:=λ b o e=>cV▸cb _ _ _ _ (rA _ _ _ _ e);have Bu:Tf P2=E0 {O2:=.U0 "frame",L3:=.H2 #[]}:=cV▸cb _ _ _ _ (BA _ O);have hNs:hp.Ns P2 (λ _=>H0):=cV▸(O1.Ns.OB W0 (.U0 "frame")).tW (cb _ _);refine S0 (vN0 (s:={s with A3:=hp}) (N0:={Z8:=sc,Wp:=P2,YE:=YE,rT:=rT,qB:=qB,UG:=fn,YA:=YA,DD:=E0 P2,lF:=bi}) hk _ (λ _ _ _=>O) hNs (λ b hb=>hl b hb) λ h' tk hn hs YG=>E2 ?_);obtain⟨o',e',c'⟩:=YG _ Bu;refine h _ h' tk O O O ?_ (λ b o e=>cW b o (WC (o9 e)) (kp b o e)) ⟨o',e',c',λ vs q=>?_⟩
 ·have e:(λ x=>(mi x).or H0)=λ x=>mi x:=Tm λ x=>by simp
  have hn:dm P2 (λ x=>(mi x).or H0):=hn;rw[e]at hn;exact hn
 ·obtain⟨o2,es,ep,e2,d2,_⟩:=hn;rw[e']at e2;obtain O:=H3 e2;rw[d2]at q;contradiction
theorem yN0(BF:R7 B g)(C6:M8 (n+1) A)(gd:J1 B A G s){a:H1}(zN0:sQ W0 a){L1:PV}{K5:P0 K0}(r:A4 G W0 L1 K5):U4 B RV F A (Bh L1) (W7 (.J0 a) K5) G s:=by
 intro P X M0;symm;obtain⟨W2,qB,tC,O4,sc,pm,ND,LE,q,MC,xF,Dg⟩:=zN0;obtain⟨x,y,z,p1,j,p2,p3,O,O,hy,h1,h2,h3,h4,h5,h6,h7,h8,h9,sV⟩:=x50 MC;cases L1 using P3 with
 |A0 a1 r1=>
  cases r1 using P3 with
  |A0 a2 r2=>
   cases r2 using P3 with
   |A0 a3 r3=>
    cases r3 using P3 with
    |B0=>
     obtain⟨v1,l1,O,ra1,rl1⟩:=r;obtain⟨v2,l2,O,Uw,rl2⟩:=rl1;obtain⟨v3,l3,O,ra3,Vw⟩:=rl2;have Vw:l3=[]:=Vw;subst Vw;have M0:(xL a2 (.j0 (.N4 2)) R1).P1 P X:=M0;have Uw:F3 G W0 a2 v2:=Uw;have hro:=C6.tT;ext;refine oZ (wN0 (by exact ω25 ‹_›) xF O h6 h5 O Dg.GR ?_);refine y50 (as:=[x,y,z]) (K5:=[v1,v2,v3]) (G5:=#[]) O (by simp[h1,h2,h3]) (λ M A E Q hq=>?_) (by simp) (by simp) (by simp) _ _ _ _ ?_
     ·exact S0 (E2 (E2 (hq H0 O)))
     refine xN0 h4 (λ k hk e=>by rw[h7 k hk]at e;contradiction) (λ b hb=>?_) λ N0 h' tk hsc sR y8 XG kp zR=>?_
     ·symm;simp only[vT,wV0,EW,eT0,EJ,qT,P0.drop_nil,lv,qD,sD,ZE]at hb;rcases hb with O|O|O
      ·ext;exact h8
      ·ext;exact h9
      ·ext;exact sV
     obtain⟨g1,D2⟩:=Zn (h':=h') (tk:=tk) kp;refine⟨Z90 _ Q00,kla_codeExpr ?_⟩;have Pc:J1 B (XN N0) G {s with A3:=h',y3:=tk}:=g1.RW (by rw[hsc,h4];decide) y8 zR (NE M_);have ky:zA aK=E0 .F7:=by unfold o6.mT;rw[hsc];exact h9
     obtain⟨l,hl,FO⟩:=gd.fr;have gO:BP=.pF:=by rw[hsc];exact h4
     symm;have kU:∀{G' N7},Z2 B F G {s with A3:=h',y3:=tk} G' N7->J1 B (XN N0) G' N7->Z2 B F G s G' N7/\J1 B A G' N7:=λ QA qJ=>by
      have S5:=(bC (F':=F) λ _ q=>P6).V2 QA;exact⟨S5,qJ.Iy hl (Hn S5.k3)⟩
     have ev:V0 R2 (XN N0) (M5 (.xC (.Z3 aK p1) (.G8 (.j0 2) j p2) p3) N0) (Po B RV F (XN N0) G {s with A3:=h',y3:=tk} P) (Px B F (XN N0) G {s with A3:=h',y3:=tk} X) {s with A3:=h',y3:=tk}:=by
      refine eY (qU0 (SS0 (v:=v2) gO ky (by rw[sR];exact XG) ?_ ?_) (xK hy).1)
      ·show P0.X9 aK [(VX,v3),(aK,v2),(r_,v1)]=E0 v2;have e1:(aK==VX)=R0:=by simpa using h2
       rw[BR,e1,BR,GW]
      ·refine ui ?_;symm;have gt:=Pc.y3 (tk+1);obtain⟨T',id,i1,i2,i3⟩:=jt (F:=F) gt.1 (Uw.D5 (.L5 G) λ b vs n _ e=>kp _ _ e) (i:=.j0 (.N4 2)) ⟨tk,O⟩ M0;ext;exact⟨T',id,i1,i2,U3 i3 (λ _ _ h=>OJ (gt.2.D5 λ _ q=>P6)) λ _ _ h=>OJ (gt.2.D5 λ _ q=>P6)⟩
     ext;refine U3 ev (λ v s2 ⟨G2,b,I2,g2,rv,hp⟩=>?_) λ e s2 ⟨G2,i,I2,g2,xi,hx⟩=>?_
     ·obtain⟨S5,g3⟩:=kU I2 g2;exact .at (R:=RV) S5 g3 rv hp
     ·refine O40 (A:=XN N0) g2 xi (O0:=N0) (VK:=l) (by show VN.Y4 _=_;rw[hl];rfl) y8 λ JD eV=>?_;obtain⟨sA,g4⟩:=kU (NP (eV.2.D5 λ _ q=>P6)) eV.1;exact⟨G2,i,sA,g4,xi,hx⟩
    |_=>exact B4
   |_=>exact B4
  |_=>exact B4
 |_=>exact B4
end
section
variable{B:Bs}{A:Around}{G G':Gh}{s s':Shared}{F:Addr->Prop}{FZ:Nat->Bool}
variable{g:Nat->Option PV}{cl:Nat->Nat}{n:Nat}{ih:B5}{T:Tab}{cenv:Env}{L:Kinds}{env:PV}{k:Nat}
def Rk(B:Bs)(g:C0->Q1 PV)(cl:C0->C0)(T:jI):Prop:=∀a p b,(PF a=.fn p b\/∃k,PF a=.c7 k p b)->Ay (bQ B g cl a p b)
def Qd(B:Bs)(T:jI)(n:C0):Prop:=∀{A:B6}{G:Gh}{s:D1}{a k:C0}{p:Pm}{b:S}{L1:PV}{K5:P0 K0}{o:I7 PV}{P:PV->K1->Prop}{X:C0->K1->Prop},
 PF a=.c7 k p b->M8 n A->J1 B A G s->A4 G W0 L1 K5->T.c7 k L1 R1=E0 o->WH P X->V0 R2 A (W7 (.J0 a) K5) (Po B RV N2 A G s P) (Px B N2 A G s X) s
theorem A60{a:C0}{k:Cl}(h:PF a=.O2 k)(hk:MI=I0):T9 T a=I0:=by
 unfold T9;rw[h];exact hk
theorem AO0(BF:R7 B g){XB:WE B T}(XI:wJ BF cl XB)(CT:XD B T)(FT:Rk B g cl T)(LB:UU=λ _=>sQ)(HO:Qd B T (n+1))(HS:sJ B g cl n ih)(HC:jO B n ih):jO B (n+1) (J6 FZ T ih):=by
 intro A G s f L1 fv K5 C6 gd rf r P X M0;cases f using P3 with
 |Z0 a=>
  symm;have rf:fv=.J0 a:=rf;subst rf;have M0:(ua T ih a L1 R1).P1 P X:=M0;unfold ua at M0;cases he:PF a with
  |no=>
   ext;rw[he]at M0;exact B4
  |fn p b=>
   rw[he]at M0;obtain⟨fo⟩:=FT a p b (.S2 he);ext;exact P40 BF HS fo C6 gd r P X M0
  |c7 k p b=>
   rw[he]at M0;have M0:((match T.c7 k L1 R1 with|E0 o=>o|H0=>yg ih p b L1 R1):I7 PV).P1 P X:=M0;cases ho:T.c7 k L1 R1 with
   |E0 o=>
    ext;rw[ho]at M0;exact HO he C6 gd r ho M0
   |H0=>
    rw[ho]at M0;obtain⟨fo⟩:=FT a p b (.L2 ⟨k,he⟩);ext;exact P40 BF HS fo C6 gd r P X M0
  |O2 k=>
   rw[he]at M0;have M0:(qa ih a k L1 R1).P1 P X:=M0;cases hk:MI with
   |I0=>
    unfold qa at M0;rw[hk]at M0;have M0:(F1 (w5 52 (Ah L1)) (λ d=>ja R0 a d) R1).P1 P X:=M0;obtain⟨fl,hf,M0⟩:=r9 (j6 M0);ext;exact p50 BF XI (A60 he hk) gd C6.dp r hf P X M0
   |R0=>
    obtain⟨co⟩:=CT a k he hk;ext;exact NK0 HC co hk C6 gd r P X M0
 |J0 i=>
  symm;obtain⟨hi,O⟩:=rf;have M0:((match O3 i with|.lA _=>Bh L1|_=>F2 54) R1).P1 P X:=M0;cases hx:O3 i with
  |lA j=>
   rw[hx]at M0;have ob:=UL i hi;rw[hx]at ob;have ob:UU j W0 (Y2 i):=ob;rw[LB]at ob;ext;exact yN0 BF C6 gd ob r P X M0
  |_=>
   ext;rw[hx]at M0;exact B4
 |_=>exact B4
theorem Ww{M:UB}{a:H1}{o:C4}{fd:LH}(ho:E3 a=E0 o)(hd:F9=.UG fd):JT M s (.J0 a):=λ A Q E h=>by
 refine S0 (Wl ho ?_);rw[hd];exact E2 (h _ (.S2 O))
theorem BO0{XB:WE B T}(CT:XD B T)(FT:Rk B g cl T)(LB:UU=λ _=>sQ):Oj B (J6 FZ T ih):=by
 intro A G s f L1 fv P X gd rf M0;cases f using P3 with
 |Z0 a=>
  have rf:fv=.J0 a:=rf;subst rf;have M0:(ua T ih a L1 R1).P1 P X:=M0;unfold ua at M0;have fn:∀{p b},(PF a=.fn p b\/∃k,PF a=.c7 k p b)->JT R2 s (.J0 a):=λ h=>by
   obtain⟨fo⟩:=FT a _ _ h;exact Ww (EC a fo.o Io Do (by rw[Lf];decide) (by rw[Lf];decide)) r00
  cases he:PF a with
  |no=>rw[he]at M0;exact B4
  |fn p b=>exact fn (.S2 he)
  |c7 k p b=>exact fn (.L2 ⟨k,he⟩)
  |O2 k=>
   cases hk:MI with
   |I0=>
    obtain⟨xk,hxa,_,D8,_⟩:=MU a (A60 he hk);intro A' Q' E' h';rw[<-hxa];obtain⟨hh,gg,dd,tt,os⟩:=s;exact e50 (D8 _ EC) (h' _ (.L2 (.S2 O)))
   |R0=>
    obtain⟨co⟩:=CT a k he hk;intro A' Q' E' h';have hC:=co.n8 gd;obtain⟨hh,gg,dd,tt,os⟩:=s;exact iS0 hC (h' _ (.L2 (.S2 O)))
 |J0 i=>
  obtain⟨hi,O⟩:=rf;have M0:((match O3 i with|.lA _=>Bh L1|_=>F2 54) R1).P1 P X:=M0;generalize hx:O3 i=zo at M0;cases zo using EA with
  |lA j=>
   have ob:=UL i hi;rw[hx]at ob;have ob:UU j W0 (Y2 i):=ob;rw[LB]at ob;obtain⟨_,_,_,_,_,_,_,_,_,_,xF,_⟩:=ob;exact Ww xF O
  |_=>exact B4
 |_=>exact B4
end
section
open PyProof.Rows
variable{B:Bs}{A:Around}{G G':Gh}{s s':Shared}{F:Addr->Prop}{FZ:Nat->Bool}
variable{g:Nat->Option PV}{cl:Nat->Nat}{n:Nat}{ih:B5}{T:Tab}{cenv:Env}{L:Kinds}{env:PV}{k:Nat}
def fe:Mk->C1
 |.Q0=>"tuple"|.M1=>"list"|.H2=>"dict"
def Rd(B:Bs)(g:C0->Q1 PV)(cl:C0->C0)(n:C0)(E:B5):Prop:=
 ∀{A:B6}{G:Gh}{s:D1}{N0:o6}{L:y5}{O0:PV}{k:C0}{m:Mk}{a:v0}{p q:Q3},F5 B n A N0 L O0 G s->D7 L (fe m)=I0->P8 a=I0->
  U4 B RV N2 A (eMk E m (cI (cE g cl k L) L a) O0) (M5 (.B7 (.Z3 (fe m) p) [a] [] q) N0) G s
def Sd(B:Bs)(n:C0):Prop:=∀{A:B6}{G:Gh}{s:D1}{y:PV}{v:K0},M8 n A->J1 B A G s->F3 G W0 y v->U4 B RV N2 A (b1 .Mm y) (W7 (.Z4 "sorted") [v]) G s
structure Lv(B:Bs)(g:C0->Q1 PV)(cl:C0->C0)(n:C0)(E:B5):Prop where
 A6:x7 B g cl n E
 LC:cQ B g cl n E
 vD:sJ B g cl n E
 K2:jO B n E
 Sk:Oj B E
 fl:mj B g cl n E
 wl:rj B g cl n E
 cp:rY B g cl n E
 Yo:Wv B g cl n E
 tr:Zv B g cl n E
 B0:Yv g cl E
theorem CO0{op:tZ}{o:gK}(h:Jh op=E0 o):op=vt o:=by
 cases op<;>first|(cases h;rfl)|contradiction
theorem aT{nm x:C1}(h:v9 L nm x=I0):x=nm/\D7 L x=I0:=pL0 h
theorem Td(BF:R7 B g){x:C1}{v:K0}(h:(x,v)∈[((("len":C1)),OW "len"),("isinstance",.Z4 "isinstance"),("sorted",.Z4 "sorted"),("str",.U0 "str"),("tuple",.U0 "tuple"),("list",.U0 "list"),("dict",.U0 "dict"),
  ("zip",.U0 "zip"),("enumerate",.U0 "enumerate"),("range",.U0 "range")]):QF x=H0/\RJ x=E0 v:=tN x v h
theorem DO0(LV:Lv B g cl n ih)(BF:R7 B g)(HM:Rd B g cl n ih)(gT:Sd B n)(X:F5 B n A N0 L O0 G s){x:C1}{p q:Q3}{L1:P0 v0}(hf:vB L1=I0)(HN:U4 B RV N2 A (Hq ih (cE g cl k L (.Z3 x p)) (Q8 (cE g cl k L) L1) O0) (M5 (.B7 (.Z3 x p) L1 [] q) N0) G s):
  U4 B RV N2 A (nE FZ T ih (Mh (cE g cl k L) L x p L1) O0) (M5 (.B7 (.Z3 x p) L1 [] q) N0) G s:=by
 cases L1 using c5 with
 |B0=>exact HN
 |A0 a r=>
  cases r using c5 with
  |B0=>
   have ha:=Dd hf;show U4 B RV N2 A (nE FZ T ih (Wq (cE g cl k L) L x p a) O0) _ G s
   delta Wq
   cases h1:v9 L "len" x with
   |I0=>
    obtain⟨O,hg⟩:=aT h1;intro P Q M0;exact mV BF v8 X (Td BF (.I8 _)) hg (by decide) (λ s=>iV) ha (f:=b1 .Y5) M0 λ G1 s1 y u D2 g1 ru D4=>(KL0 g1 ru).H8 D2 D4
   |R0=>
    cases h2:v9 L "sorted" x with
    |I0=>
     obtain⟨O,hg⟩:=aT h2;intro P Q M0;exact mV BF v8 X (Td BF (.w7 _ (.w7 _ (.I8 _)))) hg (by decide) (λ s=>iV) ha (f:=b1 .Mm) M0 λ G1 s1 y u D2 g1 ru D4=>(gT aD g1 ru).H8 D2 D4
    |R0=>
     cases h3:v9 L "str" x with
     |I0=>
      obtain⟨O,hg⟩:=aT h3;intro P Q M0;exact mV BF v8 X (Td BF (.w7 _ (.w7 _ (.w7 _ (.I8 _))))) hg (by decide) (λ s=>xM) ha (f:=b1 .Y0) M0 λ G1 s1 y u D2 g1 ru D4=>(OL0 g1 ru).H8 D2 D4
     |R0=>
      cases h4:v9 L "tuple" x with
      |I0=>
       obtain⟨O,hg⟩:=aT h4;exact HM (m:=.Q0) X hg ha
      |R0=>
       cases h5:v9 L "list" x with
       |I0=>
        obtain⟨O,hg⟩:=aT h5;exact HM (m:=.M1) X hg ha
       |R0=>
        cases h6:v9 L "dict" x with
        |I0=>
         obtain⟨O,hg⟩:=aT h6;exact HM (m:=.H2) X hg ha
        |R0=>exact HN
  |A0 b r'=>
   cases r' using c5 with
   |A0=>exact HN
   |B0=>
    show U4 B RV N2 A (nE FZ T ih (Xq (cE g cl k L) L x p a b) O0) _ G s
    delta Xq
    cases hb:U7 b with
    |H0=>exact HN
    |E0 y=>
     obtain⟨q',O⟩:=FY hb;show U4 B RV N2 A (nE FZ T ih (bif v9 L "isinstance" x then(bif v9 L "tuple" y then .b1 .ig (cE g cl k L a)else .M2)else _) O0) _ G s;cases h1:v9 L "isinstance" x with
     |I0=>
      cases h2:v9 L "tuple" y with
      |R0=>exact BD
      |I0=>
       obtain⟨O,hg⟩:=aT h1;obtain⟨O,Pk⟩:=aT h2;have ha:P8 a=I0:=by
        have:=(fY hf).2;simp only[Hc,N5]at J2;exact J2.1
       intro P Q M0;have M0:(F1 (P5 (cE g cl k L a) O0) (λ y=>F1 (w5 23 (gy y)) λ b=>W1 (.N3 b)) R1).P1 P Q:=M0;refine mM (Bd BF X (Td BF (.w7 _ (.I8 _))) hg (by decide) ?_);have D4:[a,.Z3 "tuple" q'].ZA P8=I0:=(fY hf).2;refine wI (by rw[BL D4];rfl) (zI D4 ?_);rw[vI ha];refine uD ((v8 X).q8 M0 λ G1 s1 y u D2 g1 ru A5=>?_);refine uD (Bd BF (GC D2 g1) (Td BF (.w7 _ (.w7 _ (.w7 _ (.w7 _ (.I8 _)))))) Pk (by decide) (GJ ⟨iV,?_⟩));exact(ML0 g1 ru).H8 D2 A5
     |R0=>exact HN
theorem EO0(LV:Lv B g cl n ih){BF:R7 B g}(MB:rV BF)(LB:UU=λ _=>sQ)(CT:XD B T)(ON:xE)(PO:Yu B FZ n)(HM:Rd B g cl n ih)(gT:Sd B n):∀(k:C0){A:B6}{G:Gh}{s:D1}{N0:o6}{L:y5}{O0:PV}{e:v0},
  F5 B n A N0 L O0 G s->U4 B RV N2 A (nE FZ T ih (cE g cl k L e) O0) (M5 e N0) G s:=by
 intro zq;induction zq with
 |i9=>
  intro A G s N0 L O0 e X;exact BD
 |c9 k ih=>
  intro A G s N0 L O0 e X;have sh:=PC0 g cl (k:=k) (L:=L) (e:=e);generalize cE g cl (k+1) L e=q at sh ⊢;cases sh using CE.W9 with
  |M2=>exact BD
  |const=>exact PK0 X
  |W2=>exact OK0 BF X
  |E20 op e1 p=>
   have e0:M5 (.nB op [e1] p) N0=M5 e1 N0:=by rw[IT0,nS0,arm_evalEach_nil];rfl
   exact ih X
  |F20=>exact lK0 v8 X
  |K6 l op r p o ho=>rw[CO0 ho];exact QK0 v8 X
  |eH=>exact RK0 JX v8 X
  |G20=>exact iK0 X
  |J7=>exact SK0 JX v8 X
  |Q0 es j p hf=>exact TK0 v8 X hf
  |M1 es p hf=>exact UK0 v8 X hf
  |H2 ks vs p hf=>exact YK0 v8 X hf
  |H7 X5 P4 it z6 sc p hf=>exact SM0 BF v8 LV.cp X hf
  |S1=>exact dK0 v8 X
  |Fb o x ap L1 p h1 h2 h3=>exact uK0 CT ON PO v8 RB0 LV.Sk X h1 h2 h3
  |K2 x p L1 q hf=>exact DO0 LV BF HM gT X hf (sK0 v8 RB0 LV.Sk X hf)
  |Z1 o x p hf=>exact fK0 CT ON v8 X hf
  |dE=>exact hK0 v8 X
  |uP=>exact jK0 v8 X
  |w0=>exact gK0 v8 X
  |lA a b sc p hf=>exact sN0 MB LB X hf
end
section
open PyProof.Rows
variable{B:Bs}{A:Around}{G G':Gh}{s s':Shared}{F:Addr->Prop}{FZ:Nat->Bool}
variable{g:Nat->Option PV}{cl:Nat->Nat}{n:Nat}{ih:B5}{T:Tab}{cenv:Env}{L:Kinds}{env:PV}{k:Nat}
set_option backward.match.sparseCases true in
theorem FO0{op:nB}{e1:v0}{p:Q3}{w:X7 K0}{Q:I1->D1->Prop}{E:K0->D1->Prop}(h:V0 R2 A (SH e1 N0 (M5 e1 N0)) Q E s):V0 R2 A (SH (.nB op [e1] p) N0 w) Q E s:=by
 have e0:SH (.nB op [e1] p) N0 w=(do match op,<-SH e1 N0 (M5 e1 N0)with|.DM,R0=>J4 R0|.Or,I0=>J4 I0|_,_=>J4 (op==.DM)):=by rfl
 rw[e0];refine S0 (U3 h (λ b s' h'=>?_) λ _ _ x=>x);cases op<;>cases b using n7<;>exact E2 h'
inductive qO:v0->Prop
 |eH(x:v0)(p:Q3):qO (.ZD .XX x p)
 |b0(op:nB)(p:Q3):qO (.nB op [] p)
 |b1(op:nB)(e1:v0)(p:Q3):qO (.nB op [e1] p)
 |C8(e1 e2:v0)(r:P0 v0)(p:Q3):qO (.nB .DM (e1::e2::r) p)
 |or(e1 e2:v0)(r:P0 v0)(p:Q3):qO (.nB .Or (e1::e2::r) p)
 |J7(c a b:v0)(p:Q3):qO (.SU c a b p)
 |S1(l:v0)(lI:P0 eE)(rs:P0 v0)(p:Q3):qO (.RP l lI rs p)
 |uF{e:v0}(h:∀N0 w,SH e N0 w=(do let v <-w;QI e.C2;QH [v] (YA0 v))):qO e
theorem GO0(e:v0):qO e:=by
 cases e using Z9 with
 |ZD op x p=>
  cases op using ZD.W9 with
  |XX=>exact .eH x p
  |_=>exact .uF λ _ _=>O
 |nB op vs p=>
  cases vs using c5 with
  |B0=>exact .b0 op p
  |A0 e1 r=>
   cases r using c5 with
   |B0=>exact .b1 op e1 p
   |A0 e2 r=>
    cases op using nB.W9 with
    |DM=>exact .C8 e1 e2 r p
    |Or=>exact .or e1 e2 r p
 |SU c a b p=>exact .J7 c a b p
 |RP l lI rs p=>exact .S1 l lI rs p
 |_=>exact .uF λ _ _=>O
theorem HO0(LV:Lv B g cl n ih)(HE:∀(k:C0){A:B6}{G:Gh}{s:D1}{N0:o6}{L:y5}{O0:PV}{e:v0},F5 B n A N0 L O0 G s->U4 B RV N2 A (nE FZ T ih (cE g cl k L e) O0) (M5 e N0) G s):∀(k:C0){A:B6}{G:Gh}{s:D1}{N0:o6}{L:y5}{O0:PV}{e:v0},
  F5 B n A N0 L O0 G s->U4 B RT N2 A (F1 (nE FZ T ih (cE g cl k L e) O0) iC) (SH e N0 (M5 e N0)) G s:=by
 intro k;induction k with
 |i9=>
  intro A G s N0 L O0 e X;exact BD
 |c9 k ihk=>
  intro A G s N0 L O0 e X;have sh:=GO0 e;cases sh using qO.W9 with
  |eH x p=>exact nK0 JX X
  |b0 op p=>exact BD
  |b1 op e1 p=>exact λ P Q M0=>FO0 (ihk (e:=e1) X P Q M0)
  |C8 e1 e2 r p=>exact pK0 JX X
  |or e1 e2 r p=>exact qK0 JX X
  |J7 c a b p=>exact oK0 JX X
  |S1 l lI rs p=>
   cases lI using c5 with
   |B0=>exact BD
   |A0 op lI=>
   cases lI using c5 with
   |A0 _ _=>exact BD
   |B0=>
   cases rs using c5 with
   |B0=>exact BD
   |A0 r rs=>
   cases rs using c5 with
   |A0 _ _=>exact BD
   |B0=>exact eK0 v8 X
  |uF h=>exact mK0 (HE (k+1) X) (h N0 _)
theorem IO0{e:v0}{UH:C0}(h:Ib e=R0):YV0 e H0 UH N0=J4 R0:=by cases e using Z9<;>first|rfl|contradiction
theorem JO0(LV:Lv B g cl n ih){BF:R7 B g}(MB:rV BF){XB:WE B T}(XI:wJ BF cl XB)(CT:XD B T)(ON:xE):∀(k:C0){A:B6}{G:Gh}{s:D1}{N0:o6}{L:y5}{O0:PV}{st:P0 U5},
  F5 B n A N0 L O0 G s->nO B A N0 L (Hh FZ T ih (cS g cl k L st) O0) st G s:=by
 intro zq;induction zq with
 |i9=>
  intro A G s N0 L O0 e X;exact λ P Q M0=>B4
 |c9 k ih=>
  intro A G s N0 L O0 st X;have sh:=eC0 g cl (k:=k) (L:=L) (st:=st);generalize cS g cl (k+1) L st=q at sh ⊢;cases sh using CS.W9 with
  |M2=>exact λ P Q M0=>B4
  |B0=>exact λ P Q M0=>DP ⟨G,.W4 O0,.L5 ..,VB,OR,M0⟩
  |A6 e p r h=>exact hM0 v8 QP X (IO0 h)
  |pas=>exact λ P Q M0=>xA (wpAny_Pass (ih X P Q M0))
  |ZB=>exact jM0 X
  |YB=>exact kM0 X
  |U1=>exact iM0 v8 X
  |O20 p r=>
   intro P Q M0;refine xA ?_;have e0:exec (.QK H0 p) N0=(do QI p;let v <-(J4 EF:X7 K0);J4 (.U1 v)):=O;have h:=(v8 (k:=1) (e:=.G8 .H0 0 p) X).i50 (F:=C5 N0 L) M0 (K:=λ v s'=>(Po B (VE B N0) (C5 N0 L) A G s P (.U1 v) s')) λ G1 s1 a v D2 g1 ra D4=>⟨G1,.U1 a O0,bC λ _ q=>P6,g1,ra,D4⟩;rw[Xu]at h;exact S0 (yA (S0 (U3 h (λ v s' hv=>E2 hv) λ _ _ x=>x)))
  |V1 t e p r h1 h2 h3=>exact gM0 CT ON v8 LV.Yo QP X h1 h2 h3
  |J3=>exact lM0 JX QP X
  |OE=>exact λ P Q M0=>GM0 BF v8 LV.fl QP X M0
  |CM=>exact λ P Q M0=>HM0 LV.wl QP X M0
  |Gb=>exact vM0 XB v8 X
  |OO b h hs p r hc=>exact lN0 BF XI LV.tr QP X hc
  |g_ x a b sc p r h1 h2 h4=>exact rN0 MB QP X h1 h2 h4
end
section
open PyProof.Rows
variable{B:Bs}{FZ:Nat->Bool}{g:Nat->Option PV}{cl:Nat->Nat}{n:Nat}{ih:B5}{T:Tab}
structure NM(B:Bs)(g:C0->Q1 PV)(cl:C0->C0)(T:jI)where
 BF:R7 B g
 MB:rV BF
 XB:WE B T
 XI:wJ BF cl XB
 CT:XD B T
 ON:xE
 FT:Rk B g cl T
 LB:UU=λ _=>sQ
theorem Uk(n:C0):Lv B g cl n i9 where
 A6 _:=λ P Q M0=>B4
 LC _:=λ P Q M0=>B4
 vD _ _ _ _:=λ P Q M0=>B4
 K2 _ _ _ _:=λ P Q M0=>B4
 Sk _ _ M0:=B4
 fl _ _ _ _ M0 _ _:=B4
 wl _ M0 _ _:=B4
 cp _ _ _ _ _ _ _ _ _ _ _ _ _ M0 _ _:=B4
 Yo _ _ M0:=B4
 tr _ _ M0:=B4
 B0 M0:=B4
theorem KO0(X:NM B g cl T)(LV:Lv B g cl n ih)(HO:Qd B T (n+1))(HM:Rd B g cl n ih)(gT:Sd B n):Lv B g cl (n+1) (J6 FZ T ih):=by
 have he:=@EO0 B FZ g cl n ih T LV uN X.MB X.LB n_ mn (JL0 n) HM gT;exact{
  A6:=λ H=>he _ H.pred
  LC:=λ H=>HO0 LV (λ k=>he k) _ H.pred
  vD:=λ C6 es gd er=>JO0 LV X.MB X.XI n_ mn _ ⟨C6.c9,es,gd,er⟩
  K2:=AO0 uN X.XI n_ X.FT X.LB HO QP RB0
  Sk:=BO0 (XB:=X.XB) n_ X.FT X.LB
  fl:=CM0 n_ mn v8 QP LV.fl
  wl:=BV0 JX QP LV.wl
  cp:=OM0 v8 LV.cp
  Yo:=fM0 uN v8 LV.cp
  tr:=xM0 n_ mn v8 LV.B0
  B0:=wM0}
theorem Vk(X:NM B g cl T)(c:C0)(HO:∀m,Qd B T (m+c+1))(HM:∀{n:C0}{ih:B5},Lv B g cl n ih->Rd B g cl n ih)(gT:∀n,Sd B n):∀m,Lv B g cl (m+c) (jD FZ T m)
 |0=>Uk _
 |m+1=>by
  have LV:=Vk X c HO HM gT m;have:=KO0 (FZ:=FZ) X LV (HO m) (HM LV) (gT _);rw[show m+1+c=m+c+1 by exact MZ _ _];exact J2
end
section
section
section
variable{prog:Program}{w:World}{A:Around}{E:Value->Shared->Prop}{s:Shared}
def tV(h:O1)(z TI TO:H1)(f0:K0)(b:I1):Prop:=B3 z=E0 {O2:=.U0 "zip",H2:=H0,L3:=.R5 #[f0,.N3 b,.N3 R0,.J0 TI,.J0 TO],IC:=#[]}
theorem V90{M:UB}{a:H1}{Q:Q1 C4->D1->Prop}(h:Q (E3 a) s):V0 M A (W90 a) Q E s:=λ Γ p Sg=>h
theorem B60{z TI TO T0:H1}{b:I1}{o0:C4}{Q:I1->D1->Prop}(hz:tV W0 z TI TO (i5 T0) b)(h0:E3 T0=E0 o0)
  (hQ:∀h',tV h' z TI TO (i5 T0) I0->TA z W0 h'->Q R0 {s with A3:=h'}):V0 (T4 K3 w) A (AT (.J0 z)) Q E s:=by
 unfold AT;refine S0 (M7 hz O (x:=i5 T0) O ?_);show V0 _ _ (W90 (A2.gR (T0:A2))>>=_) _ _ _;refine S0 (V90 ?_);rw[h0];refine PI LG ?_;refine S0 (M7 hz O (x:=.N3 b) O ?_);cases b using n7 with
 |I0=>
  exact E2 (hQ _ hz (.L5 ..))
 |R0=>
  refine S0 (tI hz (by simp -u4) λ h' JO LD=>E2 (hQ h' JO LD))
theorem LO0{z TI TO i1 i2 l1 l2 T0:H1}{k1 k2:C0}{xs ys:L4 K0}{x y:K0}{b:I1}{o0:C4}{Q:K0->D1->Prop}(D:Qe z TI TO i1 i2 l1 l2)
  (hz:tV W0 z TI TO (i5 T0) b)(h0:E3 T0=E0 o0)(sB:cC W0 TI (.J0 i1) (.J0 i2))
  (h1:A7 W0 i1 l1 k1 xs)(h2:A7 W0 i2 l2 k2 ys)(hx:xs[k1]?=E0 x)(hy:ys[k2]?=E0 y)
  (hQ:∀h',tV h' z TI TO (i5 T0) I0->A7 h' i1 l1 (k1+1) xs->A7 h' i2 l2 (k2+1) ys->cC h' P2 x y->IB=P2+1->
   (∀c o,c≠z->c≠i1->c≠i2->E3 c=E0 o->C3 c=E0 o)->Q (.J0 P2) {s with A3:=h'}):
  V0 (T4 K3 w) A (KA.«zip.__next__» ⟨[.J0 z],[]⟩) (λ N6 s'=>∃v,N6=.KD (.U1 v)/\Q v s') E s:=by
 show V0 _ _ (KC (.J0 z) 2>>=_) _ _ _;refine S0 (M7 hz O (x:=.N3 R0) O ?_);show V0 _ _ (KC (.J0 z) 3>>=_) _ _ _;refine S0 (M7 hz O (x:=.J0 TI) O ?_);refine S0 (zJ sB O ?_);show V0 _ _ (AT (.J0 z)>>=_) _ _ _;refine S0 (B60 hz h0 λ j5 vM wD=>?_);refine S0 ?_;rw[<-UU0];simp -u4 only[JW,ik];refine S0 (S0 (z7 ?_));show V0 _ _ (wQ (.J0 i1)>>=_) _ _ _;refine S0 (MT (R_ uC UP jR) hx λ r7 kY mB=>E2 (E2 ?_));refine S0 (S0 (z7 ?_));show V0 _ _ (wQ (.J0 i2)>>=_) _ _ _;refine S0 (MT ((fz uC sN N_).rB GH Cm Vm) hy λ c8 MO0 vG=>E2 (E2 (E2 ?_)));refine S0 (mt (Y7:=by show 2<=XA;rw[HI];exact i6 O) ?_);have Y7:xb=P2:=by rw[vG.1,mB.1,wD.1]
 have ou:tV c8 z TI TO (i5 T0) I0:=HF _ _ sN.Y3 (GH _ _ Fy vM);have NO0:=kY.rB HF D.i12 eA0;refine E2 ⟨_,O,?_⟩;show Q (.J0 xb) _;rw[Y7];refine hQ _ (S6 _ ou) (NO0.at (λ o e=>S6 _ e) λ o e=>S6 _ e) (MO0.at (λ o e=>S6 _ e) λ o e=>S6 _ e) ?_ (by rw[TD,Y7]) λ c o c1 c2 c3 e=>S6 _ (HF _ _ c3 (GH _ _ c2 (uC _ _ c1 e)));rw[<-Y7];exact BA _ O
theorem OO0{z TI TO i1 i2 l1 l2 T0:H1}{k1 k2:C0}{xs ys:L4 K0}{b:I1}{o0:C4}{Q:xO.gH->D1->Prop}(hh:C9=H0)(D:Qe z TI TO i1 i2 l1 l2)
  (hz:tV W0 z TI TO (i5 T0) b)(h0:E3 T0=E0 o0)(sB:cC W0 TI (.J0 i1) (.J0 i2))
  (h1:A7 W0 i1 l1 k1 xs)(h2:A7 W0 i2 l2 k2 ys)(lU:xs[k1]?=H0\/ys[k2]?=H0)
  (hE:∀h' e,(∀c o,c≠z->c≠i1->c≠i2->E3 c=E0 o->C3 c=E0 o)->(∃o,C3 e=E0 o/\F4=.U0 "StopIteration")->E (.J0 e) {s with A3:=h'}):
  V0 (T4 K3 w) A (KA.«zip.__next__» ⟨[.J0 z],[]⟩) Q E s:=by
 show V0 _ _ (KC (.J0 z) 2>>=_) _ _ _;refine S0 (M7 hz O (x:=.N3 R0) O ?_);show V0 _ _ (KC (.J0 z) 3>>=_) _ _ _;refine S0 (M7 hz O (x:=.J0 TI) O ?_);refine S0 (zJ sB O ?_);show V0 _ _ (AT (.J0 z)>>=_) _ _ _;refine S0 (B60 hz h0 λ j5 vM wD=>?_);refine S0 ?_;rw[<-UU0];simp -u4 only[JW,ik];refine S0 (S0 (z7 ?_));show V0 _ _ (wQ (.J0 i1)>>=_) _ _ _;cases hx:xs[k1]? with
 |H0=>exact S0 (jY hh (R_ uC UP jR) hx λ r7 e mB he ti=>hE r7 e (λ c o c1 c2 _ x=>mB _ _ c2 (uC _ _ c1 x)) he)
 |E0 x=>
  have hy:ys[k2]?=H0:=by rcases lU with h|h;rw[hx]at h;contradiction;exact h
  refine S0 (MT (R_ uC UP jR) hx λ r7 kY mB=>E2 (E2 ?_));refine S0 (S0 (z7 ?_));show V0 _ _ (wQ (.J0 i2)>>=_) _ _ _;exact S0 (jY hh ((fz uC sN N_).rB GH Cm Vm) hy λ c8 e vG he ti=>hE c8 e (λ c o c1 c2 c3 x=>vG _ _ c3 (GH _ _ c2 (uC _ _ c1 x))) he)
structure uV(h:O1)(z TI TO i1 i2 l1 l2:H1)(xs ys:L4 K0)(k:C0):Prop where
 D:Qe z TI TO i1 i2 l1 l2
 sB:cC h TI (.J0 i1) (.J0 i2)
 s1:A7 h i1 l1 k xs
 s2:A7 h i2 l2 k ys
 to:∃o,B3 TO=E0 o
 z:(wF h z TI TO .H0/\cC h TO .H0 .H0)\/∃T0 o0 b,tV h z TI TO (i5 (T0:C0)) b/\B3 T0=E0 o0/\T0≠z/\T0≠i1/\T0≠i2
theorem uV.rB{h h':O1}{z TI TO i1 i2 l1 l2:H1}{xs ys:L4 K0}{k:C0}{S:H1}(x:uV h z TI TO i1 i2 l1 l2 xs ys k)(hk:∀b o,b≠S->B3 b=E0 o->C3 b=E0 o)(hS:S≠z/\S≠TI/\S≠TO/\S≠i1/\S≠i2/\S≠l1/\S≠l2)
  (hT:∀o,B3 S=E0 o->∃o',C3 S=E0 o'):uV h' z TI TO i1 i2 l1 l2 xs ys k:=by
 refine⟨x.D,hk _ _ (E9 hS.2.1) AX,o_.at (λ o e=>hk _ _ (E9 hS.2.2.2.1) e) λ o e=>hk _ _ (E9 hS.2.2.2.2.2.1) e,UX.at (λ o e=>hk _ _ (E9 hS.2.2.2.2.1) e) λ o e=>hk _ _ (E9 hS.2.2.2.2.2.2) e,by obtain⟨o,e⟩:=x.to;exact⟨o,hk _ _ (E9 hS.2.2.1) e⟩,?_⟩;rcases wP with⟨h1,h2⟩|⟨T0,o0,b,h1,h2,h3⟩
 ·exact .S2 ⟨hk _ _ (E9 hS.1) h1,hk _ _ (E9 hS.2.2.1) h2⟩
 ·by_cases q:T0=S
  ·obtain⟨o',e'⟩:=hT o0 (q▸h2);exact .L2 ⟨T0,o',b,hk _ _ (E9 hS.1) h1,q▸e',h3⟩
  ·exact .L2 ⟨T0,o0,b,hk _ _ (E9 hS.1) h1,hk _ _ q h2,h3⟩
end
end
end
section
section
section
variable{prog:Program}{w:World}{A:Around}{E:Value->Shared->Prop}{s:Shared}
structure Wk(K3:YN)(w:M4)(A:B6)(I:H1)(W F:P0 H1)(n:C0)(P:C0->K0->K0->Prop)(St:C0->O1->Prop):Prop where
 w0:∀b∈W,b∈F
 e9:∀k h,St k h->∀b∈F,∃o,B3 b=E0 o
 DD:∀k h h' S,S∉F->St k h->(∀b o,b≠S->B3 b=E0 o->C3 b=E0 o)->(∀o,B3 S=E0 o->∃o',C3 S=E0 o')->St k h'
 xL:∀k(s:D1)(Q:Q1 K0->D1->Prop)(E:K0->D1->Prop),k<n->St k W0->
  (∀h' tk T x y,C3 T=E0 (E8 [x,y] 0)->E3 T=H0->P k x y->St (k+1) h'->(∀b o,b∉W->E3 b=E0 o->C3 b=E0 o)->Q (E0 (.J0 T)) {s with A3:=h',y3:=tk})->V0 (T4 K3 w) A (sF (.J0 I)) Q E s
 KD:∀(s:D1)(Q:Q1 K0->D1->Prop)(E:K0->D1->Prop),St n W0->(∀h',(∀b o,b∉W->E3 b=E0 o->C3 b=E0 o)->Q H0 {s with A3:=h'})->V0 (T4 K3 w) A (sF (.J0 I)) Q E s
theorem Xk(hh:C9=H0){z TI TO i1 i2 l1 l2:H1}{xs ys:L4 K0}:
  Wk K3 w A z [z,TO,i1,i2] [z,TO,i1,i2,TI,l1,l2] (uB PK Wf) (λ k x y=>xs[k]?=E0 x/\ys[k]?=E0 y) (λ k h=>uV h z TI TO i1 i2 l1 l2 xs ys k)where
 w0:=λ b hb=>by simp only[qD,sD,ZE]at hb ⊢;rcases hb with h|h|h|h<;>simp[h]
 e9:=λ k h x b hb=>by
  symm;obtain⟨⟨o1,e1,_⟩,⟨o2,e2,_⟩⟩:=o_.e9;obtain⟨⟨o3,e3,_⟩,⟨o4,e4,_⟩⟩:=UX.e9;have hz:(∃o,B3 z=E0 o):=by
   rcases wP with⟨h1,_⟩|⟨_,_,_,h1,_⟩
   ·exact⟨_,h1⟩
   ·exact⟨_,h1⟩
  simp only[qD,sD,ZE]at hb;rcases hb with O|O|O|O|O|O|O
  ·ext;exact hz
  ·ext;exact x.to
  ·ext;exact⟨_,e1⟩
  ·ext;exact⟨_,e3⟩
  ·ext;exact⟨_,AX⟩
  ·ext;exact⟨_,e2⟩
  ·ext;exact⟨_,e4⟩
 DD:=λ k h h' S hS x hk hT=>by
  symm;simp only[qD,sD,ZE,kN]at hS;obtain⟨q1,q2,q3,q4,q5,q6,q7⟩:=hS;ext;exact x.rB hk ⟨q1,q5,q2,q3,q4,q6,q7⟩ hT
 xL:=λ k s Q E hk x hQ=>by
  symm;have hx:xs[k]?=E0 xs[k]:=by rw[eh]
  have hy:ys[k]?=E0 ys[k]:=by rw[eh]
  have D:=x.D;have fD:E3 P2=H0:=NE (A8 _);ext;have yY:∀{a:H1},(∃o,E3 a=E0 o)->P2≠a:=λ zz q=>wL zz λ o e=>by rw[<-q,fD]at e;contradiction
  symm;obtain⟨⟨o1,e1,_⟩,_⟩:=o_.e9;obtain⟨⟨o3,e3,_⟩,_⟩:=UX.e9;rcases wP with⟨hz,mA⟩|⟨T0,o0,b,hz,h0,t1,t2,t3⟩
  ·have hT:aC (.J0 z) "zip":=⟨_,hz,O⟩;ext;refine S0 (GI (iF (W2:=DA "__next__") hT KL
    (TC KL hT Qb (d40 D hz AX mA o_ UX hx hy λ h' JO Yj uc ag cK Y7 hk=>E2 ?_) (Hb _))))
   refine hQ h' X4 _ xs[k] ys[k] cK fD ⟨hx,hy⟩ ⟨D,hk _ _ D.TIz D.TITO D.TIi1 D.TIi2 AX,uc,ag,⟨_,Yj⟩,.L2 ⟨_,_,R0,JO,cK,yY ⟨_,hz⟩,yY ⟨_,e1⟩,yY ⟨_,e3⟩⟩⟩ λ c o hc e=>?_;simp only[qD,sD,ZE,kN]at hc;exact hk c o hc.1 hc.2.1 hc.2.2.1 hc.2.2.2 e
  ·have hT:aC (.J0 z) "zip":=⟨_,hz,O⟩;ext;refine S0 (GI (iF (W2:=DA "__next__") hT KL
    (TC KL hT Qb (LO0 D hz h0 AX o_ UX hx hy λ h' JO uc ag cK Y7 hk=>E2 ?_) (Hb _))))
   refine hQ h' X4 _ xs[k] ys[k] cK fD ⟨hx,hy⟩ ⟨D,hk _ _ D.TIz D.TIi1 D.TIi2 AX,uc,ag,?_,.L2 ⟨T0,o0,I0,JO,hk _ _ t1 t2 t3 h0,t1,t2,t3⟩⟩ λ c o hc e=>?_
   ·obtain⟨o,e⟩:=x.to;exact⟨o,hk _ _ rN B_ ae e⟩
   ·simp only[qD,sD,ZE,kN]at hc;exact hk c o hc.1 hc.2.2.1 hc.2.2.2 e
 KD:=λ s Q E x hQ=>by
  symm;have D:=x.D;have lU:xs[uB PK Wf]?=H0\/ys[uB PK Wf]?=H0:=by
   by_cases q:PK<=Wf
   ·left;rw[b80];exact FP (pj ‹_›).Y3
   ·right;rw[b80];exact FP (ST0 (s80 ‹_›)).Y3
  rcases wP with⟨hz,mA⟩|⟨T0,o0,b,hz,h0,t1,t2,t3⟩
  ·have hT:aC (.J0 z) "zip":=⟨_,hz,O⟩;obtain⟨⟨o3,e3,_⟩,_⟩:=UX.e9;ext;refine S0 (GI (iF (W2:=DA "__next__") hT KL
    (TC KL hT Qb (h40 hh D hz AX mA o_ ⟨_,e3⟩ (lU.JM id λ h=>⟨UX,h⟩) λ h' e hk he ha=>?_) (Hb _))))
   obtain⟨o,ho,hc⟩:=he;refine S0 (pT (T:="StopIteration") (b:=I0) ⟨o,ho,hc⟩ XZ ?_);refine E2 (hQ h' λ c o hc e=>?_);simp only[qD,sD,ZE,kN]at hc;exact hk c o hc.1 hc.2.1 hc.2.2.1 hc.2.2.2 e
  ·have hT:aC (.J0 z) "zip":=⟨_,hz,O⟩;ext;refine S0 (GI (iF (W2:=DA "__next__") hT KL
    (TC KL hT Qb (OO0 hh D hz h0 AX o_ UX lU λ h' e hk he=>?_) (Hb _))))
   obtain⟨o,ho,hc⟩:=he;refine S0 (pT (T:="StopIteration") (b:=I0) ⟨o,ho,hc⟩ XZ ?_);refine E2 (hQ h' λ c o hc e=>?_);simp only[qD,sD,ZE,kN]at hc;exact hk c o hc.1 hc.2.2.1 hc.2.2.2 e
end
end
end
section
section
section
variable{prog:Program}{w:World}{A:Around}{E:Value->Shared->Prop}{s:Shared}
def FN(h:O1)(e it:H1)(k:C0)(f0:K0)(b:I1)(L8:K0):Prop:=B3 e=E0 {O2:=.U0 "enumerate",H2:=H0,L3:=.R5 #[f0,.N3 b,.J0 it,i5 k,.H0,L8],IC:=#[]}
theorem PO0{e it l T0:H1}{k:C0}{G5:L4 K0}{x L8:K0}{b:I1}{o0:C4}{Q:K0->D1->Prop}
  (he:FN W0 e it k (i5 T0) b L8)(h0:E3 T0=E0 o0)(t1:T0≠e)(t2:T0≠it)(C7:A7 W0 it l k G5)(hx:G5[k]?=E0 x)(Y6:e≠it)(iH:l≠e)
  (hQ:∀h',FN h' e it (k+1) (i5 T0) I0 L8->A7 h' it l (k+1) G5->
   C3 P2=E0 {O2:=.U0 "tuple",L3:=.V5 #[.j0 k X4,x]}->
   (∀b o,b≠e->b≠it->E3 b=E0 o->C3 b=E0 o)->Q (.J0 P2) {s with A3:=h',y3:=X4+1}):
  V0 (T4 K3 w) A (KA.«enumerate.__next__» ⟨[.J0 e],[]⟩) (λ N6 s'=>∃v,N6=.KD (.U1 v)/\Q v s') E s:=by
 obtain⟨hp,g,d,tk,os⟩:=s;show V0 _ _ (KC (.J0 e) 2>>=_) _ _ _;refine S0 (M7 he O (x:=.J0 it) O ?_);refine S0 (MT C7 hx λ j5 NT wD=>?_);replace wD:TA it hp j5:=wD;have iO:FN j5 e it k (i5 T0) b L8:=(wD.2 e Y6).V2 he;show V0 _ _ (KC (.J0 e) 3>>=_) _ _ ⟨j5,g,d,tk,os⟩;refine S0 (M7 iO O (x:=i5 k) O ?_);show V0 _ _ (KC (.J0 e) 4>>=_) _ _ ⟨j5,g,d,tk,os⟩;refine S0 (M7 iO O (x:=.H0) O ?_);show V0 _ _ (mkInt k>>=_) _ _ ⟨j5,g,d,tk,os⟩;refine S0 (K90 ?_);show V0 _ _ (Pe (.J0 e) 3 (i5 ((k:A2)+1))>>=_) _ _ ⟨j5,g,d,tk+1,os⟩;refine S0 (tI iO (by simp) λ r7 rJ mB=>?_);replace mB:TA e j5 r7:=mB;replace rJ:FN r7 e it (k+1) (i5 T0) b L8:=rJ;show V0 _ _ (Pe (.J0 e) 4 .H0>>=_) _ _ ⟨r7,g,d,tk+1,os⟩;refine S0 (tI rJ (by simp) λ c8 rM vG=>?_);replace vG:TA e r7 c8:=vG;replace rM:FN c8 e it (k+1) (i5 T0) b L8:=rM;show V0 _ _ (rV0 [.j0 k tk,x]>>=_) _ _ ⟨c8,g,d,tk+1,os⟩;refine S0 (mt ?_);have Y7:xb=VW:=by rw[vG.1,mB.1,wD.1]
 have C60:∀b o,b≠e->b≠it->Tf b=E0 o->c8.W5 b=E0 o:=λ b o lO RA hb=>HF b o lO (GH b o lO (uC b o RA hb));have QO0:A7 c8 it l (k+1) G5:=(NT.rB GH TR iH).rB HF TR iH;have iQ:FN (gf {O2:=.U0 "tuple",L3:=.V5 #[.j0 k tk,x]}) e it (k+1) (i5 T0) b L8:=S6 _ rM;show V0 _ _ (AT (.J0 e)>>=_) _ _ ⟨gf {O2:=.U0 "tuple",L3:=.V5 #[.j0 k tk,x]},g,d,tk+1,os⟩;refine S0 ?_;refine S0 (M7 iQ O (x:=i5 T0) O ?_);show V0 _ _ (W90 (A2.gR (T0:A2))>>=_) _ _ _;refine S0 (V90 ?_);rw[show O1.W5 (D1.A3 ⟨gf {O2:=.U0 "tuple",L3:=.V5 #[.j0 k tk,x]},g,d,tk+1,os⟩) T0=E0 o0 from S6 _ (C60 _ _ t1 t2 h0)];refine S0 (M7 iQ O (x:=.N3 b) O ?_);have N6:∀h',FN h' e it (k+1) (i5 T0) I0 L8->TA e (gf {O2:=.U0 "tuple",L3:=.V5 #[.j0 k tk,x]}) h'->Q (.J0 xb) ⟨h',g,d,tk+1,os⟩:=λ h' mI LD=>by
  rw[Y7];have up:∀b o,b≠e->c8.W5 b=E0 o->C3 b=E0 o:=λ b o hb x=>o00 b o hb (S6 _ x);refine hQ h' mI (QO0.at (λ o x=>up _ o TR x) λ o x=>up _ o iH x) ?_ λ b o h1 h2 x=>up b o h1 (C60 b o h1 h2 x);have:=o00 xb _ (by rw[Y7];exact UW (o9 he)) (BA c8 (o:={O2:=.U0 "tuple",L3:=.V5 #[.j0 k tk,x]}) O);rw[Y7]at J2;exact J2
 cases b using n7 with
 |I0=>
  refine E2 ?_;refine PI LG ?_;exact E2 ⟨_,O,N6 _ iQ (.L5 ..)⟩
 |R0=>
  refine S0 (tI iQ (by simp) λ h' mI LD=>E2 ?_);dsimp only[vr,uZ];exact E2 ⟨_,O,N6 h' mI LD⟩
theorem RO0{e it l:H1}{k:C0}{G5:L4 K0}{f0 L8:K0}{b:I1}{Q:xO.gH->D1->Prop}(hh:C9=H0)
  (he:FN W0 e it k f0 b L8)(C7:A7 W0 it l k G5)(hx:G5[k]?=H0)
  (hE:∀h' x,ld it W0 h'->(∃o,C3 x=E0 o/\F4=.U0 "StopIteration")->E (.J0 x) {s with A3:=h'}):
  V0 (T4 K3 w) A (KA.«enumerate.__next__» ⟨[.J0 e],[]⟩) Q E s:=by
 show V0 _ _ (KC (.J0 e) 2>>=_) _ _ _;refine S0 (M7 he O (x:=.J0 it) O ?_);exact S0 (jY hh C7 hx λ h' x mI NO ti=>hE h' x mI NO)
structure ESt(h:O1)(e it l:H1)(xs:L4 K0)(k:C0):Prop where
 ne:e≠it
 nl:l≠e
 R4:A7 h it l k xs
 z:∃L8,FN h e it k .H0 R0 L8\/∃T0 o0 b,FN h e it k (i5 (T0:C0)) b L8/\B3 T0=E0 o0/\T0≠e/\T0≠it
theorem SO0(hh:C9=H0){e it l:H1}{xs:L4 K0}:
  Wk K3 w A e [e,it] [e,it,l] PK (λ k x y=>(∃t,x=.j0 k t)/\xs[k]?=E0 y) (λ k h=>ESt h e it l xs k)where
 w0:=λ b hb=>by simp only[qD,sD,ZE]at hb ⊢;rcases hb with h|h<;>simp[h]
 e9:=λ k h x b hb=>by
  obtain⟨⟨o1,e1,_⟩,⟨o2,e2,_⟩⟩:=Hg.e9;have hz:(∃o,B3 e=E0 o):=by
   obtain⟨L8,h1|⟨_,_,_,h1,_⟩⟩:=wP
   ·exact⟨_,h1⟩
   ·exact⟨_,h1⟩
  simp only[qD,sD,ZE]at hb;rcases hb with O|O|O
  ·exact hz
  ·exact⟨_,e1⟩
  ·exact⟨_,e2⟩
 DD:=λ k h h' S hS x hk hT=>by
  simp only[qD,sD,ZE,kN]at hS;obtain⟨q1,q2,q3⟩:=hS;refine⟨rR,Cg,Hg.at (λ o e=>hk _ _ (E9 q2) e) λ o e=>hk _ _ (E9 q3) e,?_⟩;obtain⟨L8,h1|⟨T0,o0,b,h1,h2,h3⟩⟩:=wP
  ·exact⟨L8,.S2 (hk _ _ (E9 q1) h1)⟩
  ·refine⟨L8,.L2 ?_⟩;by_cases q:T0=S
   ·obtain⟨o',e'⟩:=hT o0 (q▸h2);exact⟨T0,o',b,hk _ _ (E9 q1) h1,q▸e',h3⟩
   ·exact⟨T0,o0,b,hk _ _ (E9 q1) h1,hk _ _ q h2,h3⟩
 xL:=λ k s Q E hk x hQ=>by
  have hx:xs[k]?=E0 xs[k]:=by rw[eh]
  have fD:E3 P2=H0:=NE (A8 _);have yY:∀{a:H1},(∃o,E3 a=E0 o)->P2≠a:=λ zz q=>wL zz λ o e=>by rw[<-q,fD]at e;contradiction
  obtain⟨⟨o1,e1,_⟩,_⟩:=Hg.e9;obtain⟨L8,he|⟨T0,o0,b,he,h0,t1,t2⟩⟩:=wP
  ·have hT:aC (.J0 e) "enumerate":=⟨_,he,O⟩;unfold sF;refine S0 (GI (iF (W2:=DA "__next__") hT PQ
    (TC PQ hT Pi (j40 he Hg hx rR Cg λ h' mI wc cK Y7 hk=>E2 ?_) (lh _))))
   refine hQ h' (X4+1) _ (.j0 k X4) xs[k] cK fD ⟨⟨_,O⟩,hx⟩ ⟨rR,Cg,wc,_,.L2 ⟨_,_,R0,mI,cK,yY ⟨_,he⟩,yY ⟨_,e1⟩⟩⟩ λ c o hc e=>?_;simp only[qD,sD,ZE,kN]at hc;exact hk c o hc.1 hc.2 e
  ·have hT:aC (.J0 e) "enumerate":=⟨_,he,O⟩;refine S0 (GI (iF (W2:=DA "__next__") hT PQ
    (TC PQ hT Pi (PO0 he h0 t1 t2 Hg hx rR Cg λ h' mI wc cK hk=>E2 ?_) (lh _))))
   refine hQ h' (X4+1) _ (.j0 k X4) xs[k] cK fD ⟨⟨_,O⟩,hx⟩ ⟨rR,Cg,wc,_,.L2 ⟨T0,o0,I0,mI,hk _ _ t1 t2 h0,t1,t2⟩⟩ λ c o hc e=>?_;simp only[qD,sD,ZE,kN]at hc;exact hk c o hc.1 hc.2 e
 KD:=λ s Q E x hQ=>by
  have he:∃f0 b L8,FN W0 e it PK f0 b L8:=by
   obtain⟨L8,h1|⟨_,_,_,h1,_⟩⟩:=wP
   ·exact⟨_,_,_,h1⟩
   ·exact⟨_,_,_,h1⟩
  obtain⟨f0,b,L8,he⟩:=he;have hT:aC (.J0 e) "enumerate":=⟨_,he,O⟩;refine S0 (GI (iF (W2:=DA "__next__") hT PQ
   (TC PQ hT Pi (RO0 hh he Hg (by simp) λ h' x hk NO=>?_) (lh _))))
  obtain⟨o,ho,hc⟩:=NO;refine S0 (pT (T:="StopIteration") (b:=I0) ⟨o,ho,hc⟩ XZ ?_);refine E2 (hQ h' λ c o hc e=>?_);simp only[qD,sD,ZE,kN]at hc;exact hk c o hc.2 e
def CJ(P:C0->K0->K0->Prop)(h0:O1)(X:P0 H1)(M3:L4 K0)(i:C0)(h:O1):Prop:=
 V00=i/\∀j v,M3[j]?=E0 v->∃T x y,v=.J0 T/\T∉X/\B3 T=E0 (E8 [x,y] 0)/\P j x y/\Fn T=H0
theorem CJ.at{P:C0->K0->K0->Prop}{h0:O1}{X:P0 H1}{M3:L4 K0}{i:C0}{h h':O1}(p:CJ P h0 X M3 i h)(hk:∀b o,b∉X->B3 b=E0 o->C3 b=E0 o):CJ P h0 X M3 i h':=
 ⟨p.1,λ j v hv=>by obtain⟨T,x,y,e,hT,g,q⟩:=p.2 j v hv;exact⟨T,x,y,e,hT,hk _ _ hT g,q⟩⟩
theorem CJ.y6{P:C0->K0->K0->Prop}{h0:O1}{X:P0 H1}{M3:L4 K0}{i:C0}{h:O1}{T:H1}{x y:K0}(p:CJ P h0 X M3 i h)(hT:T∉X)(g:B3 T=E0 (E8 [x,y] 0))(q:P i x y)(q0:Fn T=H0):CJ P h0 X (M3.y6 (.J0 T)) (i+1) h:=by
 refine⟨by rw[L4.r70,p.1],λ j v hj=>?_⟩;rw[L4.getElem?_push]at hj
 split at hj
 ·rename_i e;rw[p.1]at e;obtain O:=H3 hj;rw[e];exact⟨T,x,y,O,hT,g,q,q0⟩
 ·exact p.2 j v hj
section
variable{I:Addr}{W F:List Addr}{n:Nat}{P:Nat->Value->Value->Prop}{St:Nat->Heap->Prop}{R:Result->Shared->Prop}
theorem TO0(h0:O1)(X:Wk K3 w pB I W F n P St)(hn:n<=XA)(S:H1)(WJ:S∉F)(GS:K0):
  ∀(k i:C0)(s:D1)(M3:L4 K0)(c:C0),n-i=k->i<=n->St i W0->E3 S=E0 {O2:=.U0 "list",H2:=H0,L3:=.V5 M3 c,IC:=#[]}->CJ P h0 (S::W) M3 i W0->(∀b o,b∉S::W->Fn b=E0 o->E3 b=E0 o)->
  (∀h' tk ZK c',(∀b o,b∉S::W->E3 b=E0 o->C3 b=E0 o)->C3 S=E0 {O2:=.U0 "list",H2:=H0,L3:=.V5 ZK c',IC:=#[]}->CJ P h0 (S::W) ZK n h'->R (.ok (.U1 GS)) {s with A3:=h',y3:=tk})->
  FC (T4 K3 w) A (.Z4 "list.extend.loop" ⟨[.J0 S,.J0 I,GS],[]⟩) R s:=by
 have Ud:S∉W:=λ h=>WJ (xn _ h);intro k;induction k with
 |i9=>
  intro i s M3 c hk hi NC hS yF Wd hR;have Ea:i=n:=by omega
  subst Ea;refine KW NT0 ?_;show V0 _ pB (sF (.J0 I)>>=_) _ _ s;refine S0 (X.KD s _ _ NC λ h' hk=>?_);have IM:∀b o,b∉S::W->E3 b=E0 o->C3 b=E0 o:=λ b o hb e=>hk b o (λ q=>hb (yB _ q)) e;exact E2 (hR h' X4 M3 c IM (hk _ _ Ud hS) (yF.at IM))
 |c9 k ih=>
  intro i s M3 c hk hi NC hS yF Wd hR;have VF:i<n:=by exact ω33 ‹_›
  refine KW NT0 ?_;show V0 _ pB (sF (.J0 I)>>=_) _ _ s;refine S0 (X.xL i s _ _ VF NC λ h' tk T x y hT y8 hP Xw nI=>?_);have eK:=nI S _ Ud hS;have hTS:T≠S:=λ q=>by rw[q,hS]at y8;contradiction
  have hTW:T∉S::W:=λ q=>by
   rcases dA q with q|q
   ·exact hTS q
   ·obtain⟨o,e⟩:=X.e9 _ _ NC T (xn _ q);rw[y8]at e;contradiction
  show V0 _ pB (ml S (·.y6 (.J0 T))>>=_) _ _ _;refine S0 ?_;have CF:∀b o,b≠S->C3 b=E0 o->(h'.GF S (FK (·.y6 (.J0 T)))).W5 b=E0 o:=λ b o hb e=>(hM _ _ (E9 hb)).V2 e;have IM:∀b o,b∉S::W->E3 b=E0 o->C3 b=E0 o:=λ b o hb e=>nI b o (λ q=>hb (yB _ q)) e;refine Hk eK O (E2 ⟨bc OT0 _,ih (i+1) {s with A3:=_,y3:=tk} (M3.y6 (.J0 T)) _ (by omega) VF (Mo _ h' _ S WJ Xw CF λ o e=>⟨_,BH _ eK O⟩)
   (BH _ eK O) ?_ (λ b o hb e=>CF b o (λ q=>hb (by rw[q];exact .I8 _)) (IM b o hb (Wd b o hb e))) λ TJ MD ZK c' UO0 VO0 WO0=>?_⟩) (by rw[yF.1];exact W6 ‹_› ‹_›) (by show(M3.y6 (.J0 T)).L9<=XA+1;rw[L4.r70,yF.1];exact ω112 ‹_› ‹_›)
  ·exact((yF.at IM).at λ b o hb e=>CF b o (λ q=>hb (by rw[q];exact .I8 _)) e).y6 hTW (CF _ _ hTS hT) hP (by
    cases e:Fn T with
    |H0=>rfl
    |E0 o=>rw[Wd _ _ hTW e]at y8;contradiction)
  ·exact hR TJ MD ZK c' (λ b o hb e=>UO0 b o hb (CF b o (λ q=>hb (by rw[q];exact .I8 _)) (IM b o hb e))) VO0 WO0
end
end
end
end
section
section
set_option backward.match.sparseCases true in
def zG(T:U6)(n:C1):I1:=match EV0 T n with|E0 H0=>I0|_=>R0
theorem iP{T:U6}{n:C1}(h:zG T n=I0):MA (.U0 T) n=J4 H0:=am_miss_of_fast h
theorem vV:zG "zip" "__len__"=I0/\zG "zip" "__length_hint__"=I0/\zG "enumerate" "__len__"=I0/\zG "enumerate" "__length_hint__"=I0/\zG "zip" "__getattr__"=I0/\zG "zip" "keys"=I0/\zG "list" "keys"=I0:=by
 have h:(zG "zip" "__len__"&&(zG "zip" "__length_hint__"&&(zG "enumerate" "__len__"&&(zG "enumerate" "__length_hint__"&&(zG "zip" "__getattr__"&&(zG "zip" "keys"&&zG "list" "keys"))))))=I0:=by kernel_rfl
 simpa -u4 only[N5]using h
theorem XO0:MA (.U0 "zip") "__len__"=J4 H0:=iP vV.1
theorem YO0:MA (.U0 "zip") "__length_hint__"=J4 H0:=iP vV.2.1
theorem ZO0:MA (.U0 "enumerate") "__len__"=J4 H0:=iP vV.2.2.1
theorem aO0:MA (.U0 "enumerate") "__length_hint__"=J4 H0:=iP vV.2.2.2.1
section
variable{prog:Program}{w:World}{A:Around}{E:Value->Shared->Prop}{s:Shared}
structure zY(K3:YN)(w:M4)(T:U6):Prop where
 nl:(TL T==TL "list")=R0
 nt:(TL T==TL "tuple")=R0
 Yw:MA (.U0 T) "__len__"=J4 H0
 Zw:MA (.U0 T) "__length_hint__"=J4 H0
 iI:∀{A:B6}{E:K0->D1->Prop}{s:D1}{r:H1}{Q:K0->D1->Prop},aC (.J0 r) T->Q (.J0 r) s->V0 (T4 K3 w) A (C_ (.J0 r)) Q E s
theorem VA0:zY K3 w "zip" where
 nl:=by decide
 nt:=by decide
 Yw:=XO0
 Zw:=YO0
 iI:=λ{A E s r Q} hT h=>ls hT PT0 (TC PT0 hT F.entry_zip_iter (by
  show V0 _ _ (U1 (.J0 r)) _ _ _;exact E2 ⟨_,O,"zip",_,hT,KL.X9,h⟩) (F.args_zip_iter_1 _))
theorem xV0:zY K3 w "enumerate" where
 nl:=by decide
 nt:=by decide
 Yw:=ZO0
 Zw:=aO0
 iI:=λ{A E s r Q} hT h=>ls hT la (TC la hT K80 (by
  show V0 _ _ (U1 (.J0 r)) _ _ _;exact E2 ⟨_,O,"enumerate",_,hT,B80,h⟩) (J80 _))
variable{T:String}{I:Addr}{W Fp:List Addr}{n:Nat}{P:Nat->Value->Value->Prop}{St:Nat->Heap->Prop}{R:Result->Shared->Prop}
theorem D60(h0:O1)(S:H1)(Wd:∀b o,b≠S->Fn b=E0 o->E3 b=E0 o)(WT:zY K3 w T)(X:Wk K3 w pB I W Fp n P St)(hn:n<=XA)(WJ:S∉Fp)(kX:S≠I)(hT:aC (.J0 I) T)(NC:St 0 W0)(GS:K0){c₀:C0}(hS:E3 S=E0 {O2:=.U0 "list",L3:=.V5 #[] c₀})
  (hR:∀h' tk ZK c',(∀b o,b∉S::W->E3 b=E0 o->C3 b=E0 o)->C3 S=E0 {O2:=.U0 "list",H2:=H0,L3:=.V5 ZK c',IC:=#[]}->CJ P h0 (S::W) ZK n h'->R (.ok (.U1 GS)) {s with A3:=h',y3:=tk}):
  V0 (T4 K3 w) pB (ch (.J0 S) (.J0 I) GS)
   (λ N6 s'=>match N6 with|.KD f=>R (.ok f) s'|.WK c'=>c'.quiet=I0/\FC (T4 K3 w) A c' R s') (λ e s'=>R (.ID e) s') s:=by
 unfold ch;refine S0 (IR hT ?_);have h1:da.lU0 (.J0 S) (.J0 I)=R0:=by simp[da.lU0,kX]
 simp -u4 only[h1,WT.nl,WT.nt,I1.ZE,vr,uZ];refine S0 (WT.iI hT ?_);refine S0 (z7 ?_);refine S0 (Fk hT WT.Yw ?_);show V0 _ pB (ix (w6 I) (DA "__length_hint__")>>=_) _ _ _;refine S0 (Fk hT WT.Zw ?_);refine E2 ?_;show V0 _ pB (rule "list.extend.makes-room">>=λ _=>da.listTouch (.J0 S)>>=λ _=>
  WK (.Z4 "list.extend.loop" ⟨[.J0 S,.J0 I,GS],[]⟩)) _ _ _
 refine S0 (KP ?_);refine S0 ?_;show V0 _ pB (ml S (·.y6 .H0)>>=λ _=>ml S (·.bK)) _ _ _;refine S0 (Hk hS O ?_);have Xd:=BH (FK (·.y6 EF)) hS O;refine Hk (hz:=by seq_fits) Xd O ?_;have E60:=BH (FK (·.bK)) Xd O;have CF:∀b o,b≠S->E3 b=E0 o->((NL S (FK (·.y6 EF))).GF S (FK (·.bK))).W5 b=E0 o:=
  λ b o hb e=>(hM _ _ (E9 hb)).V2 ((hM _ _ (E9 hb)).V2 e)
 refine E2 ⟨bc OT0 _,TO0 h0 X hn _ WJ _ n 0 {s with A3:=_} _ _ O (MN _) (Mo 0 _ _ S WJ NC CF λ o e=>⟨_,E60⟩) E60 ⟨O,λ j v h=>by simp -u4 at h⟩ (λ b o hb e=>CF b o (λ q=>hb (by rw[q];exact .I8 _)) (Wd b o (λ q=>hb (by rw[q];exact .I8 _)) e)) λ h' tk ZK c' hk eK yF=>?_⟩;exact hR h' tk ZK c' (λ b o hb e=>hk b o hb (CF b o (λ q=>hb (by rw[q];exact .I8 _)) e)) eK yF
theorem FL{h:O1}{b:H1}{o:C4}(e:B3 b=E0 o):l8≠b:=UW (o9 e)
theorem bO0{Q:K0->D1->Prop}(WT:zY K3 w T)(hh:C9=H0)(X:∀A:B6,C9=H0->Wk K3 w A I W Fp n P St)(hn:n<=XA)(hT:aC (.J0 I) T)(NC:St 0 W0)
  (hQ:∀h' tk M3 c,(∀b o,b∉W->E3 b=E0 o->C3 b=E0 o)->C3 P2=E0 {O2:=.U0 "list",H2:=H0,L3:=.V5 M3 c,IC:=#[]}->CJ P W0 [] M3 n h'->Q (.J0 P2) {s with A3:=h',y3:=tk}):
  V0 (T4 K3 w) A (K2 (.U0 "list") [.J0 I]) Q E s:=by
 refine x80 (Q₁:=λ NF M6=>NF=.J0 P2/\M6={s with A3:=F8 {O2:=.U0 "list",L3:=.V5 #[]}}) Y8.called_list (Y8.typeCall_list_1 _) Y8.entry_list_init
  (code_list_new _ ⟨O,O⟩) λ NF M6 j5=>?_
 obtain⟨O,O⟩:=j5;have hS:(F8 {O2:=.U0 "list",L3:=.V5 #[]}).W5 P2=E0 {O2:=.U0 "list",L3:=.V5 #[]}:=BA _ O;have WJ:P2∉Fp:=λ q=>by obtain⟨o,e⟩:=(X A hh).e9 _ _ NC _ q;exact FL e O
 refine⟨⟨_,hS,O⟩,Y8.args_list_init_2 _ _,?_⟩;show V0 _ _ (do let L8 <-da.listItems (.J0 P2);da.listUpdate (.J0 P2) (λ _=>#[]);letGo L8.XE.RL;ch (.J0 P2) (.J0 I) .H0) _ _ _;refine S0 ?_;refine S0 (zJ hS O (E2 ?_));show V0 _ _ (ml P2 (λ _=>#[])>>=λ _=>letGo (#[]:L4 K0).XE.RL>>=λ _=>ch (.J0 P2) (.J0 I) .H0) _ _ _;refine S0 (Hk hS O ?_);have Xd:=BH (FK (λ _=>(#[]:L4 K0))) hS O;have CF:∀b o,b≠P2->E3 b=E0 o->((F8 {O2:=.U0 "list",L3:=.V5 #[]}).GF P2 (FK (λ _=>(#[]:L4 K0)))).W5 b=E0 o:=
  λ b o hb e=>(hM _ _ (E9 hb)).V2 (S6 _ e)
 refine S0 (Rl ?_);have kX:P2≠I:=by obtain⟨o,e,_⟩:=hT;exact FL e
 refine D60 (A:=pB) (s:={s with A3:=_}) W0 _ CF WT (X _ hh) hn WJ kX (by obtain⟨o,e,c⟩:=hT;exact⟨o,CF _ _ kX.Y3 e,c⟩) ((X A hh).DD 0 _ _ _ WJ NC CF λ o e=>⟨_,Xd⟩) .H0 Xd λ h' tk ZK c' hk eK yF=>?_;exact⟨O,hQ h' tk ZK c' (λ b o hb e=>hk b o (λ q=>by
  rcases dA q with q|q
  ·exact FL e SK
  ·exact hb q) (CF b o (λ q=>FL e SK) e)) eK ⟨yF.1,λ j v hv=>by obtain⟨T,x,y,e,_,g,q⟩:=yF.2 j v hv;exact⟨T,x,y,e,nofun,g,q⟩⟩⟩
set_option backward.match.sparseCases true in
theorem cO0{Q:P0 K0->D1->Prop}(WT:zY K3 w T)(X:Wk K3 w pB I W Fp n P St)(hn:n<=XA)(hT:aC (.J0 I) T)(NC:St 0 W0)
  (hQ:∀h' tk M3,(∀b o,b∉W->E3 b=E0 o->C3 b=E0 o)->CJ P W0 [] M3 n h'->Q BU {s with A3:=h',y3:=tk}):V0 (T4 K3 w) A (collect (.J0 I)) Q E s:=by
 have WJ:P2∉Fp:=λ q=>by obtain⟨o,e⟩:=X.e9 _ _ NC _ q;exact FL e O
 have kX:P2≠I:=by obtain⟨o,e,_⟩:=hT;exact FL e
 have hS:(F8 {O2:=.U0 "list",L3:=.V5 ([]:P0 K0).N8}).W5 P2=E0 {O2:=.U0 "list",L3:=.V5 #[] 0}:=BA _ O;have CF:∀b o,b≠P2->E3 b=E0 o->(F8 {O2:=.U0 "list",L3:=.V5 ([]:P0 K0).N8}).W5 b=E0 o:=λ b o _ e=>S6 _ e;refine S0 (dT0 (KW Y8.entry_proto_collect ?_));show V0 _ pB (WR []>>=λ l=>WK (.Z4 "list.__iadd__" ⟨[l,.J0 I],[]⟩)) _ _ s;refine S0 (DH ?_);refine E2 ⟨bc Y8.plain_list_iadd _,KW Y8.entry_list_iadd ?_⟩;show V0 _ pB (ch (.J0 P2) (.J0 I) (.J0 P2)) _ _ _;refine U3 (D60 W0 P2 (A:=A) (s:={s with A3:=_}) CF (R:=λ r s'=>r=.ok (.U1 (.J0 P2))/\∃h' tk M3 c,s'={s with A3:=h',y3:=tk}/\(∀b o,b∉P2::W->E3 b=E0 o->C3 b=E0 o)/\C3 P2=E0 {O2:=.U0 "list",H2:=H0,L3:=.V5 M3 c,IC:=#[]}/\CJ P W0 (P2::W) M3 n h')
  WT X hn WJ kX (by obtain⟨o,e,c⟩:=hT;exact⟨o,CF _ _ kX.Y3 e,c⟩) (Mo 0 _ _ _ WJ NC CF λ o e=>⟨_,hS⟩) _ hS λ h' tk ZK c' hk eK yF=>⟨O,h',tk,ZK,c',O,λ b o hb e=>hk b o hb (CF b o (λ q=>hb (by rw[q];exact .I8 _)) e),eK,yF⟩) (λ N6 s' h=>?_) λ e s' h=>T3 h.1 (by simp -u4)
 have fin':∀{h':O1}{tk:O6}{M3:L4 K0}{c:C0},(∀b o,b∉P2::W->E3 b=E0 o->C3 b=E0 o)->C3 P2=E0 {O2:=.U0 "list",H2:=H0,L3:=.V5 M3 c,IC:=#[]}->CJ P W0 (P2::W) M3 n h'->
   V0 (T4 K3 w) A (match w6 P2 with
   |w6 a=>do
    match(<-load a).L3 with
     |Data.V5 xs _=>J4 LP
     |_=>T90 "internal:collect"
   |_=>T90 "internal:collect") Q E {s with A3:=h',y3:=tk}:=λ{h' tk M3 c} hk eK yF=>by
  show V0 _ A (load P2>>=_) _ _ _;refine S0 (Wl eK (E2 (hQ h' tk M3 (λ b o hb e=>hk b o (λ q=>?_) e) ⟨yF.1,λ j v hv=>by obtain⟨T,x,y,e,_,g,q⟩:=yF.2 j v hv;exact⟨T,x,y,e,nofun,g,q⟩⟩)));rcases dA q with q|q
  ·exact FL e SK
  ·exact hb q
 cases N6 with
 |KD f=>
  obtain⟨e,h',tk,M3,c,O,h1,h2,h3⟩:=h;cases e;exact fin' h1 h2 h3
 |WK c'=>
  exact⟨h.1,codeAny_mono h.2 λ r N7 hr=>by
   obtain⟨e,h',tk,M3,c,O,h1,h2,h3⟩:=hr;subst e;exact fin' h1 h2 h3⟩
theorem dO0{Q:K0->D1->Prop}(WT:zY K3 w T)(hTt:T="enumerate")(hh:C9=H0)(X:∀A:B6,C9=H0->Wk K3 w A I W Fp n P St)(hn:n<=XA)(hT:aC (.J0 I) T)(NC:St 0 W0)
  (hQ:∀h' tk M3,(∀b o,b∉W->E3 b=E0 o->C3 b=E0 o)->CJ P W0 [] M3 n h'->Q (.J0 IB) {s with A3:=Uf {O2:=.U0 "tuple",L3:=.V5 M3},y3:=tk}):
  V0 (T4 K3 w) A (K2 (.U0 "tuple") [.J0 I]) Q E s:=by
 refine x80 (Q₁:=λ NF M6=>M6.XV NF "tuple"/\Q NF M6) B90 (Y8.typeCall_tuple_1 _) Y8.entry_object_init
  (UZ ?_) λ NF M6 j5=>⟨j5.1,Y8.fS0 NF _,object_init_meets B90.vZ.X9 B90.made (by decide) K3 w pB _ M6 ⟨j5.1,O,j5.2⟩⟩
 show V0 _ iW (do CR "tuple.__new__" ⟨[.U0 "tuple",.J0 I],[]⟩;WK (.Z4 "tuple.__new__" ⟨[.U0 "tuple",.J0 I],[]⟩)) _ _ s;refine S0 (NN (Y8.newCall_tuple_1 _) (E2 ⟨bc BU0 _,KW Y8.entry_tuple_new ?_⟩));rw[B6.under_plainId BU0 _];have hsub:=sub_tuple_self;have YW0:=init_tuple_lookup;have hmh:=madeHere_tuple;subst hTt
 wp_walk using IR hT,cO0 WT (X iW.in1 hh) hn hT NC
 intro h' tk M3 hk yF;show V0 _ _ (NZ BU.N8>>=λ v=>U1 v) _ _ _;refine S0 (DH ?_ (by show BU.wT<=XA;simp -u4 only[Sr];rw[yF.1];exact hn));refine E2 ⟨⟨_,BA _ O,O⟩,?_⟩;simp -u4 only[Sr];exact hQ h' tk M3 hk yF
end
end
end
section
section
theorem F60:plainId "dict.update.loop"=I0:=by decide +E7
theorem G60:BA0 table "dict.update.loop"=E0 KA.«dict.update.loop»:=AT0 (by kernel_rfl)
theorem eO0:BA0 table "zip.__getattribute__"=E0 KA.«object.__getattribute__»:=
 entryFor_alias (id':="object.__getattribute__") (by rw[rS0];kernel_rfl) (by decide +E7) (by decide +E7) (by rw[rS0];kernel_rfl)
theorem fO0:MA (.U0 "zip") "__getattr__"=J4 H0:=(iP vV.2.2.2.2.1)
theorem gO0:MA (.U0 "zip") "keys"=J4 H0:=(iP vV.2.2.2.2.2.1)
theorem hO0:MA (.U0 "list") "keys"=J4 H0:=(iP vV.2.2.2.2.2.2)
theorem iO0(a:H1)(vs:L4 K0)(u:O6):
  K_ (KA.«object.__getattribute__» ⟨[.J0 a,.Y0 "keys" u],[]⟩) (λ A R s=>E3 a=E0 {O2:=.U0 "zip",H2:=H0,L3:=.R5 vs,IC:=#[]}/\raisesAttr (.J0 a) "keys" A R s):=
 K_.km λ K3 w A R s hs=>by
  obtain⟨hp,g,d,tk,os⟩:=s;obtain⟨hx,hs⟩:=hs;have hT:(⟨hp,g,d,tk,os⟩:D1).XV (.J0 a) "zip":=⟨_,hx,O⟩;have hmiss:=gO0;unfold KA.«object.__getattribute__»
  repeat (any_goals (first|assumption|wp_step))
  exact wpAny_raiseAttrError hs.1 hs.2 (attrMsg_fits (by decide +E7) (by decide))
section
variable{prog:Program}{w:World}{A:Around}{E:Value->Shared->Prop}{s:Shared}
def Yk(K3:YN)(w:M4)(A:B6)(s:D1)(a:H1):Prop:=∀{Q:Q1 K0->D1->Prop}{E:K0->D1->Prop},(∀h' tk,(∀b o,E3 b=E0 o->C3 b=E0 o)->Q H0 {s with A3:=h',y3:=tk})->V0 (T4 K3 w) A (getAttr? (.J0 a) "keys") Q E s
theorem H60{a:H1}{T id:U6}(hT:∀tk,({s with y3:=tk}:D1).XV (.J0 a) T)(Sl:Slot T "__getattribute__" id)(hg:MA (.U0 T) "__getattr__"=J4 H0)
  (hc:∀{u:O6}{Q:K0->D1->Prop}{E:K0->D1->Prop},(∀h' tk e,O1.NewAttrErr W0 h' e (.J0 a) "keys"->E (.J0 e) {s with A3:=h',y3:=tk})->V0 (T4 K3 w) A (K2 (.Z4 id) [.J0 a,.Y0 "keys" u]) Q E {s with y3:=X4+1}):Yk K3 w A s a:=λ{Q E} h=>by
 refine S0 (GU0 (S0 (GI (z7 (S0 (IR (hT _) (S0 (NN Sl.X9 ?_))))))));show V0 _ _ (getAttrByItsOwn (.J0 a) (.Y0 "keys" X4) (.U0 T) (.Z4 id) R0 R0) _ _ _;refine S0 (NN (show(if lx (.U0 T)then MA (.U0 T) "__getattr__" else J4 H0)=J4 H0 from O) ?_);refine S0 (GI (z7 ?_));show V0 _ _ (iU0 (.Z4 id) (.J0 a)>>=_) _ _ _;refine S0 (NN (Sl.R6 _) ?_);refine hc λ h' tk e hx=>?_;obtain⟨t',u',he⟩:=hx.e9;have hI:({s with A3:=h',y3:=tk}:D1).XV (.J0 e) "AttributeError":=⟨_,he,O⟩;show V0 _ _ (getattributeRaised _ _ _ _ _ _ _) _ _ _;refine S0 (pT (T:="AttributeError") (b:=I0) hI jS0 ?_);refine S0 (NN (show(if lx (.U0 T)then J4 H0 else MA (.U0 T) "__getattr__")=J4 H0 from hg) ?_);refine kZ ?_;refine S0 (pT (T:="AttributeError") (b:=I0) hI jS0 ?_);exact E2 (h _ _ hx.tW)
theorem jO0{a:H1}{vs:L4 K0}(hx:E3 a=E0 {O2:=.U0 "zip",H2:=H0,L3:=.R5 vs,IC:=#[]})(hA:C9=H0):Yk K3 w A s a:=
 H60 (T:="zip") (λ _=>⟨_,hx,O⟩) aS0 fO0 λ h=>KR aS0 ⟨_,hx,O⟩ eO0 (Y8.args_zip_getattribute_2 _ _) (iO0 a vs _) ⟨hx,hA,h⟩
theorem kO0{a:H1}{xs:L4 K0}{k:C0}(hx:E3 a=E0 {O2:=.U0 "list",H2:=H0,L3:=.V5 xs k,IC:=#[]})(hA:C9=H0):Yk K3 w A s a:=
 H60 (T:="list") (λ _=>⟨_,hx,O⟩) VS0 am_list_getattr_none λ h=>KR VS0 ⟨_,hx,O⟩ am_entry_list_getattribute (Y8.args_list_getattribute_2 _ _) (meets_getattribute_miss_list a xs k #[] "keys" _ hO0 (by decide) (by decide)) ⟨hx,hA,h⟩
structure bw(K3:YN)(w:M4)(A:B6)(I:H1)(W F:P0 H1)(n:C0)(P:C0->K0->K0->Prop)(St:C0->O1->Prop):Prop where
 w0:∀b∈W,b∈F
 DD:∀k h h' S,S∉F->St k h->(∀b o,b≠S->B3 b=E0 o->C3 b=E0 o)->(∀o,B3 S=E0 o->∃o',C3 S=E0 o')->St k h'
 xL:∀k(s:D1)(Q:Q1 K0->D1->Prop)(E:K0->D1->Prop),k<n->St k W0->
  (∀h' tk T x y c,C3 T=E0 (E8 [x,y] c)->P k x y->St (k+1) h'->(∀b o,b∉W->E3 b=E0 o->C3 b=E0 o)->Q (E0 (.J0 T)) {s with A3:=h',y3:=tk})->V0 (T4 K3 w) A (sF (.J0 I)) Q E s
 KD:∀(s:D1)(Q:Q1 K0->D1->Prop)(E:K0->D1->Prop),St n W0->(∀h',(∀b o,b∉W->E3 b=E0 o->C3 b=E0 o)->Q H0 {s with A3:=h'})->V0 (T4 K3 w) A (sF (.J0 I)) Q E s
theorem Wk.d{I:H1}{W Fp:P0 H1}{n:C0}{P:C0->K0->K0->Prop}{St:C0->O1->Prop}(X:Wk K3 w A I W Fp n P St):bw K3 w A I W Fp n P St:=
 ⟨xn,Mo,λ k s Q E hk st h=>X.xL k s Q E hk st λ h' tk T x y e _ p QA hk=>h h' tk T x y 0 e p QA hk,X.KD⟩
structure LSt(h:O1)(it R4:H1)(ts:P0 (H1×K0×K0×C0))(k:C0):Prop where
 wi:A7 h it R4 k (TH λ t=>w6 t.1).N8
 ps:∀t∈ts,B3 t.1=E0 (E8 [t.2.1,t.2.2.1] t.2.2.2)
 ne:∀t∈ts,t.1≠it
theorem lO0(hh:C9=H0){it R4:H1}{ts:P0 (H1×K0×K0×C0)}:
  bw K3 w A it [it] (it::R4::TH (·.1)) UN (λ k x y=>∃t,ts[k]?=E0 t/\x=t.2.1/\y=t.2.2.1) (λ k h=>LSt h it R4 ts k)where
 w0:=λ b hb=>by simp only[List.mem_singleton]at hb;rw[hb];exact .I8 _
 DD:=λ k h h' S hS x hk hT=>by
  simp only[qD,kN,ca]at hS;exact⟨x.wi.at (λ o e=>hk _ _ (E9 hS.1) e) λ o e=>hk _ _ (E9 hS.2.1) e,λ t ht=>hk _ _ (λ q=>hS.2.2 ⟨t,ht,q⟩) (x.ps t ht),rR⟩
 xL:=λ k s Q E hk x hQ=>by
  have ht:ts[k]∈ts:=P0.getElem_mem hk;refine uu (x:=.J0 ts[k].1) x.wi (by simp[hk]) λ h' hs uJ=>?_;refine hQ h' X4 ts[k].1 _ _ _ (YL _ _ (rR _ ht) (x.ps _ ht)) ⟨_,P0.xR0 hk,O,O⟩ ⟨hs,λ t ht=>YL _ _ (rR _ ht) (x.ps _ ht),rR⟩ λ b o hb e=>YL b o (λ q=>hb (by rw[q];exact .I8 _)) e
 KD:=λ s Q E x hQ=>wu hh x.wi (by simp) λ h' hs _=>hQ h' λ b o hb e=>hs b o (λ q=>hb (by rw[q];exact .I8 _)) e
section
variable{I:Addr}{W Fp:List Addr}{n:Nat}{P:Nat->Value->Value->Prop}{St:Nat->Heap->Prop}{R:Result->Shared->Prop}
def Zk(P:C0->K0->K0->Prop)(l:P0 (C1×K0))(i:C0):Prop:=HJ=i/\∀j κ v,l[j]?=E0 (κ,v)->∃t,P j (.Y0 κ t) v
theorem I60(X:bw K3 w pB I W Fp n P St)(hP:∀k x y,P k x y->∃κ t,x=.Y0 κ t)(hn:n<=XA)(d:H1)(WJ:d∉Fp)(GS:K0):
  ∀(k i:C0)(s:D1)(l:P0 (C1×K0)),n-i=k->i<=n->St i W0->W0.PR (CD K3 w) d (TK [] l)->Zk P l i->
  (∀h' tk l',(∀b o,b∉d::W->E3 b=E0 o->C3 b=E0 o)->ff (CD K3 w) d (TK [] l')->Zk P l' n->R (.ok (.U1 GS)) {s with A3:=h',y3:=tk})->
  FC (T4 K3 w) A (.Z4 "dict.update.loop" ⟨[.J0 d,.J0 I,i5 i,GS],[]⟩) R s:=by
 have Ud:d∉W:=λ h=>WJ (xn _ h);intro k;induction k with
 |i9=>
  intro i s l hk hi NC hS hl hR;have Ea:i=n:=by omega
  subst Ea;refine KW G60 ?_;show V0 _ pB (sF (.J0 I)>>=_) _ _ s;refine S0 (X.KD s _ _ NC λ h' hk=>?_);refine S0 (E2 (E2 (hR h' X4 l (λ b o hb e=>hk b o (λ q=>hb (yB _ q)) e) (hS.at λ o e=>hk _ _ Ud e) hl)))
 |c9 k ih=>
  intro i s l hk hi NC hS hl hR;have VF:i<n:=by exact ω33 ‹_›
  refine KW G60 ?_;show V0 _ pB (sF (.J0 I)>>=_) _ _ s;refine S0 (X.xL i s _ _ VF NC λ h' tk T x y c hT hp Xw nI=>?_);obtain⟨κ,t,O⟩:=hP _ _ _ hp;have hT':({s with A3:=h',y3:=tk}:D1).XV (.J0 T) "tuple":=⟨_,hT,O⟩;show V0 _ _ (QH [.J0 T] _>>=_) _ _ _;refine S0 (z7 ?_);refine S0 (wpAny_tryCatch ?_);refine S0 (IR hT' ?_);refine S0 (zJ hT O (E2 ?_));show V0 _ _ (QH [.Y0 κ t,y] (dictSet d (.Y0 κ t) y)) _ _ _;have eK:=hS.at λ o e=>nI _ _ Ud e;have hml:=merged_length_le [] l;rw[qT,hl.1]at hml;refine z7 (wpAny_dictSet_pairs (Y7:=by exact ω67 ‹_› ‹_› ‹_›) (lC:=CD K3 w) (k:=κ) (by first|rfl|exact K0.isStrOf_self|(show Sc κ (.Y0 κ t)=I0;simp[Sc])) eK λ TJ J60 uJ=>?_);refine E2 ⟨bc F60 _,?_⟩;have IM:∀b o,b∉d::W->E3 b=E0 o->E_ b=E0 o:=λ b o hb e=>YL b o (λ q=>hb (by rw[q];exact .I8 _)) (nI b o (λ q=>hb (yB _ q)) e);have:=ih (i+1) {s with A3:=TJ,y3:=tk+1} (l++[(κ,y)]) (by exact ω12 ‹_›) VF (Mo _ h' _ d WJ Xw (λ b o hb e=>YL b o hb e) λ o e=>by obtain⟨o,_,_,e,_⟩:=J60;exact⟨o,e⟩)
   (by rw[show TK [] (l++[(κ,y)])=NJ (TK [] l) κ y from by simp[TK,P0.foldl_append]];exact J60)
   ⟨by simp[hl.1],λ j κ' v hj=>?_⟩ λ h3 Dw l3 VQ IT hl3=>hR h3 Dw l3 (λ b o hb e=>VQ b o hb (IM b o hb e)) IT hl3
  ·exact J2
  ·rcases C0.lt_or_ge j HJ with q|q
   ·rw[P0.getElem?_append_left q]at hj;exact hl.2 j κ' v hj
   ·rw[P0.getElem?_append_right q]at hj;have:j-HJ=0:=by
     rcases C0.eq_zero_or_pos (j-HJ)with z|z
     ·exact z
     ·rw[P0.getElem?_eq_none (by simp;exact FT0 ‹_›)]at hj;contradiction
    rw[J2]at hj;cases hj;have:j=i:=by rw[<-hl.1];omega
    subst J2;exact⟨t,hp⟩
end
end
end
end
section
section
section
variable{prog:Program}{w:World}{A:Around}{E:Value->Shared->Prop}{s:Shared}
def zH(h h':O1):Prop:=∀b o,B3 b=E0 o->C3 b=E0 o
theorem K60{a:H1}{W:P0 H1}{T:U6}{n:C0}{P:C0->K0->K0->Prop}{Q:K0->D1->Prop}(hT:aC (.J0 a) T)(Y6:(TL T !=TL "dict")=I0)(hN:∀s',zH W0 T6->Yk K3 w iW s' a)
  (hIt:∀(j5:O1)(O_:O6)(R:tL->D1->Prop)(E':K0->D1->Prop),zH W0 j5->j5.PR (CD K3 w) P2 []->
   (∀h' tk l,(∀b o,b∉W->E3 b=E0 o->C3 b=E0 o)->ff (CD K3 w) P2 (TK [] l)->Zk P l n->R (.ok (.U1 .H0)) {s with A3:=h',y3:=tk})->
   V0 (T4 K3 w) iW (C_ (.J0 a)) (λ it s'=>FC (T4 K3 w) pB (.Z4 "dict.update.loop" ⟨[.J0 P2,it,i5 (0:C0),.H0],[]⟩) R s') E' {s with A3:=j5,y3:=O_})
  (hQ:∀h' tk l,(∀b o,b∉W->E3 b=E0 o->C3 b=E0 o)->ff (CD K3 w) P2 (TK [] l)->Zk P l n->Q (.J0 P2) {s with A3:=h',y3:=tk}):
  V0 (T4 K3 w) A (K2 (.U0 "dict") [.J0 a]) Q E s:=by
 refine x80 (Q₁:=λ NF M6=>NF=.J0 P2/\M6={s with A3:=F8 {O2:=.U0 "dict",L3:=.H2 #[]}}) Y8.kt_called_dict (Y8.kt_typeCall_dict_1 _) Y8.entry_dict_init (kt_code_dict_new _ ⟨O,O⟩) ?_;rintro NF M6 ⟨O,O⟩;have hnew:(F8 {O2:=.U0 "dict",L3:=.H2 #[]}).PR (CD K3 w) P2 []:=O1.PR.OB W0;have hg:zH W0 (F8 {O2:=.U0 "dict",L3:=.H2 #[]}):=λ b o e=>S6 _ e;refine⟨hnew.wC,Y8.args_dict_init_2 _ _,?_⟩;unfold KA.«dict.__init__»;refine S0 ?_;refine S0 (wpAny_notOrdered_dict hnew.wC ?_);show V0 _ _ (J4 (P2,[w6 a])) _ _ _;refine E2 ?_;show V0 _ _ (KA.Qn.updateFrom "dict.__init__" P2 (.J0 a) [] .H0) _ _ _;refine S0 (IR (by obtain⟨o,e,c⟩:=hT;exact⟨o,hg _ _ e,c⟩) ?_);rw[w3 Y6];refine S0 (hN {s with A3:=_} hg λ r7 tk₂ hg₂=>?_);show V0 _ _ (rule _>>=_) _ _ _;refine S0 (KP ?_);refine S0 (U3 (hIt r7 tk₂ (wants (λ r q9=>r=.H0/\Q (.J0 P2) q9) E) (λ e s'=>wants (λ r q9=>r=.H0/\Q (.J0 P2) q9) E (.ID e) s') (λ b o e=>hg₂ b o (hg b o e)) (hnew.at λ o e=>hg₂ _ _ e) λ h' tk l hk hd hl=>⟨O,hQ h' tk l hk hd hl⟩) (λ it s' h=>?_) λ _ _ h=>h);exact E2 ⟨bc F60 _,h⟩
end
end
end
section
open PyProof.Rows
variable{B:Bs}{A:Around}{G G':Gh}{s s':Shared}{F:Addr->Prop}
def ak(G:Gh)(h:O1)(v x y:K0):Prop:=∃T,v=.J0 T/\T∉E5/\B3 T=E0 (E8 [x,y] 0)
theorem mO0{h:O1}{l:PV}{xs:P0 K0}(r:A4 G h l xs):∀{m:PV}{ys M3:P0 K0},A4 G h m ys->Ao=uB YC i00->
  (∀(j:C0)(v:K0),M3[j]?=E0 v->∃x y,ak G h v x y/\xs[j]?=E0 x/\ys[j]?=E0 y)->A4 G h (kK l m) M3:=by
 refine uG (C:=λ l xs=>∀{m:PV}{ys M3:P0 K0},A4 G h m ys->Ao=uB YC i00->(∀(j:C0)(v:K0),M3[j]?=E0 v->∃x y,ak G h v x y/\xs[j]?=E0 x/\ys[j]?=E0 y)->A4 G h (kK l m) M3) ?_ ?_ r
 ·intro m ys M3 _ hl _;have:M3=[]:=EQ (by simpa using hl);rw[J2];exact O
 ·intro a q v vs ra _ ih m ys M3 rm hl hp;cases m using P3 with
  |B0=>
   symm;have rm:ys=[]:=rm;subst rm;have:M3=[]:=EQ (by simpa using hl);ext;rw[J2];exact O
  |A0 b q2=>
   obtain⟨u,us,O,rb,rq⟩:=rm;cases M3 using c5 with
   |B0=>simp at hl
   |A0 c M3=>
    symm;obtain⟨x,y,⟨T,O,hT,e⟩,hx,hy⟩:=hp 0 c O;obtain O:=H3 hx;obtain O:=H3 hy;ext;exact⟨_,_,O,Vj e hT ra rb,ih rq (by simp at hl;omega) λ j v hj=>hp (j+1) v hj⟩
  |_=>exact SB0
theorem nO0{h:O1}{l:PV}{xs:P0 K0}(r:A4 G h l xs):∀{n:C0}{M3:P0 K0},Ao=YC->
  (∀(j:C0)(v:K0),M3[j]?=E0 v->∃x y,ak G h v x y/\(∃t,x=.j0 ((n+j:C0):A2) t)/\xs[j]?=E0 y)->A4 G h (BY l n) M3:=by
 refine uG (C:=λ l xs=>∀{n:C0}{M3:P0 K0},Ao=YC->(∀(j:C0)(v:K0),M3[j]?=E0 v->∃x y,ak G h v x y/\(∃t,x=.j0 ((n+j:C0):A2) t)/\xs[j]?=E0 y)->A4 G h (BY l n) M3) ?_ ?_ r
 ·intro n M3 hl _;have:M3=[]:=EQ hl;rw[J2];exact O
 ·intro a q v vs ra _ ih n M3 hl hp;cases M3 using c5 with
  |B0=>simp at hl
  |A0 c M3=>
   symm;obtain⟨x,y,⟨T,O,hT,e⟩,⟨t,O⟩,hy⟩:=hp 0 c O;obtain O:=H3 hy;ext;exact⟨_,_,O,Vj (p:=.j0 (.N4 n)) e hT ⟨t,O⟩ ra,ih (by simpa using hl) λ j v hj=>by
    have:=hp (j+1) v hj
    rwa [show n+(j+1)=n.c9+j by exact(MZ _ _).Y3]at J2⟩
theorem oO0{h:O1}:∀{n a:C0}{M3:P0 K0},Ao=n->(∀(j:C0)(v:K0),M3[j]?=E0 v->∃t,v=.j0 ((a+j:C0):A2) t)->A4 G h (Dq n a) M3:=by
 intro n;induction n with
 |i9=>
  intro a M3 hl _;rw[EQ hl];exact O
 |c9 n ih=>
  intro a M3 hl hp;cases M3 using c5 with
  |B0=>contradiction
  |A0 c M3=>
  obtain⟨t,O⟩:=hp 0 c O;exact⟨_,_,O,⟨t,O⟩,ih (dZ hl) λ j v hj=>by
   have:=hp (j+1) v hj
   rwa [show a+(j+1)=a.c9+j by exact(MZ _ _).Y3]at J2⟩
theorem pO0{l:PV}{k:C0}{v:PV}(h:AY l=E0 (k,v)):l=.A0 (.Y0 k) (.A0 v .B0):=by
 unfold AY at h;cases h1:nH l with
 |H0=>rw[h1]at h;contradiction
 |E0 x=>
  rw[h1]at h;have h:(match LS x.1 with
   |E0 k=>match nH x.2 with
    |E0 y=>bif QM y.2 then E0 (k,y.1)else B2
    |B2=>B2
   |B2=>B2)=E0 (k,v):=h
  cases h2:LS x.1 with
  |H0=>rw[h2]at h;contradiction
  |E0 k'=>
   rw[h2]at h;have h:(match nH x.2 with
    |E0 y=>bif QM y.2 then E0 (k',y.1)else B2
    |B2=>B2)=E0 (k,v):=h
   cases h3:nH x.2 with
   |H0=>rw[h3]at h;contradiction
   |E0 y=>
    rw[h3]at h;have h:(bif QM y.2 then E0 (k',y.1)else H0)=E0 (k,v):=h;obtain⟨h4,h⟩:=PC h;obtain⟨O,O⟩:=lZ (H3 h);rw[HQ h1,Ih h2,HQ h3,yU h4]
theorem L60{a q d:PV}(h:OI (.A0 a q)=E0 d):∃k v d',a=.Q0 (.A0 (.Y0 k) (.A0 v .B0))/\OI q=E0 d'/\d=.kv k v d':=by
 have h:(match i_ a with
  |E0 l=>match AY l with
   |E0 x=>(OI q).Y4 (.kv x.1 x.2)
   |B2=>B2
  |B2=>B2)=E0 d:=h
 cases h1:i_ a with
 |H0=>rw[h1]at h;contradiction
 |E0 l=>
  rw[h1]at h;have h:(match AY l with
   |E0 x=>(OI q).Y4 (.kv x.1 x.2)
   |B2=>B2)=E0 d:=h
  cases h2:AY l with
  |H0=>rw[h2]at h;contradiction
  |E0 x=>
   rw[h2]at h;obtain⟨d',aA,O⟩:=QQ h;exact⟨x.1,x.2,d',by rw[o10 h1,pO0 h2],aA,O⟩
theorem M60{a b q d:PV}(h:OI (.A0 (.Q0 (.A0 a (.A0 b .B0))) q)=E0 d):∃k d',a=.Y0 k/\OI q=E0 d'/\d=.kv k b d':=by
 obtain⟨k,v,d',e,h1,h2⟩:=L60 h;cases e;exact⟨k,d',O,h1,h2⟩
theorem qO0{h:O1}{l:PV}{xs:P0 K0}(r:A4 G h l xs):∀{m d:PV}{ys:P0 K0}{U2:P0 (C1×K0)},A4 G h m ys->OI (kK l m)=E0 d->DK=uB YC i00->
  (∀(j:C0)(κ:C1)(v:K0),U2[j]?=E0 (κ,v)->∃t,xs[j]?=E0 (.Y0 κ t)/\ys[j]?=E0 v)->S8 G h d U2:=by
 refine uG (C:=λ l xs=>∀{m d:PV}{ys:P0 K0}{U2:P0 (C1×K0)},A4 G h m ys->OI (kK l m)=E0 d->DK=uB YC i00->(∀(j:C0)(κ:C1)(v:K0),U2[j]?=E0 (κ,v)->∃t,xs[j]?=E0 (.Y0 κ t)/\ys[j]?=E0 v)->S8 G h d U2) ?_ ?_ r
 ·intro m d ys U2 _ hd hl _;obtain O:=H3 hd;have:U2=[]:=EQ (by simpa using hl);rw[J2];exact O
 ·intro a q v vs ra _ ih m d ys U2 rm hd hl hp;cases m using P3 with
  |B0=>
   have rm:ys=[]:=rm;subst rm;obtain O:=H3 hd;have:U2=[]:=EQ (by simpa using hl);rw[J2];exact O
  |A0 b q2=>
   obtain⟨u,us,O,rb,rq⟩:=rm;change OI (.A0 (.Q0 (.A0 a (.A0 b .B0))) (kK q q2))=E0 d at hd;obtain⟨k,d',O,aA,O⟩:=M60 hd;cases U2 using c5 with
   |B0=>simp at hl
   |A0 c U2=>
    obtain⟨t,hx,hy⟩:=hp 0 c.1 c.2 O;obtain O:=H3 hx;obtain O:=H3 hy;obtain⟨h0,y,t',e,hk⟩:=ra;cases e;exact⟨_,_,_,O,h0,hk,rb,ih rq aA (by simp at hl;omega) λ j κ v hj=>hp (j+1) κ v hj⟩
  |_=>exact SB0
theorem rO0{h:O1}{l:PV}{xs:P0 K0}(r:A4 G h l xs):∀{m d:PV}{ys:P0 K0}{k:C0}{x y:K0},A4 G h m ys->OI (kK l m)=E0 d->xs[k]?=E0 x->ys[k]?=E0 y->∃κ t,x=.Y0 κ t:=by
 refine uG (C:=λ l xs=>∀{m d:PV}{ys:P0 K0}{k:C0}{x y:K0},A4 G h m ys->OI (kK l m)=E0 d->xs[k]?=E0 x->ys[k]?=E0 y->∃κ t,x=.Y0 κ t) ?_ ?_ r
 ·intro m d ys k x y _ _ hx;simp at hx
 ·intro a q v vs ra _ ih m d ys k x y rm hd hx hy;cases m using P3 with
  |B0=>have rm:ys=[]:=rm;subst rm;simp at hy
  |A0 b q2=>
   symm;obtain⟨u,us,O,rb,rq⟩:=rm;change OI (.A0 (.Q0 (.A0 a (.A0 b .B0))) (kK q q2))=E0 d at hd;obtain⟨k',d',O,aA,O⟩:=M60 hd;ext;induction k using ML with
   |i9=>obtain O:=H3 hx;obtain⟨h0,y',t',e,hk⟩:=ra;exact⟨_,_,e⟩
   |c9 k=>exact ih rq aA hx hy
  |_=>exact SB0
theorem sO0{h:O1}{l:PV}{vs:P0 K0}(r:A4 G h l vs):∀{d:PV},OI l=E0 d->∃ts:P0 (H1×K0×K0×C0),vs=TH (λ t=>w6 t.1)/\(∀t∈ts,B3 t.1=E0 (E8 [t.2.1,t.2.2.1] t.2.2.2))/\
  (∀t∈ts,∃κ u,t.2.1=.Y0 κ u)/\∀U2:P0 (C1×K0),DK=UN->(∀(j:C0)(κ:C1)(v:K0),U2[j]?=E0 (κ,v)->∃u t,ts[j]?=E0 t/\.Y0 κ u=t.2.1/\v=t.2.2.1)->S8 G h d U2:=by
 refine uG (C:=λ l vs=>∀{d:PV},OI l=E0 d->∃ts:P0 (H1×K0×K0×C0),vs=TH (λ t=>w6 t.1)/\(∀t∈ts,B3 t.1=E0 (E8 [t.2.1,t.2.2.1] t.2.2.2))/\
  (∀t∈ts,∃κ u,t.2.1=.Y0 κ u)/\∀U2:P0 (C1×K0),DK=UN->(∀(j:C0)(κ:C1)(v:K0),U2[j]?=E0 (κ,v)->∃u t,ts[j]?=E0 t/\.Y0 κ u=t.2.1/\v=t.2.2.1)->S8 G h d U2) ?_ ?_ r
 ·intro d hd;obtain O:=H3 hd;exact⟨[],O,λ _ h=>T3 h sD,λ _ h=>T3 h sD,λ U2 hl _=>by rw[EQ hl];exact O⟩
 ·intro a q v vs ra _ ih d hd;symm;obtain⟨k,p,d',O,aA,O⟩:=L60 hd;obtain⟨ts,O,h1,h2,h3⟩:=ih aA;obtain⟨T,ws,c,O,hT,e,x1,w1,O,⟨h0,y,t,O,hk⟩,x2,w2,O,r2,O⟩:=ra;ext;refine⟨(T,.Y0 y t,x2,c)::ts,O,λ t' ht=>?_,λ t' ht=>?_,λ U2 hl hp=>?_⟩
  ·rcases dA ht with O|ht
   ·exact e
   ·exact h1 t' ht
  ·rcases dA ht with O|ht
   ·exact⟨_,_,O⟩
   ·exact h2 t' ht
  ·cases U2 using c5 with
   |B0=>simp at hl
   |A0 c' U2=>
    symm;obtain⟨u,t',e1,e2,e3⟩:=hp 0 c'.1 c'.2 O;obtain O:=H3 e1;ext;cases e2;exact⟨_,_,_,O,h0,hk,e3▸r2,h3 U2 (by simpa using hl) λ j κ v hj=>hp (j+1) κ v hj⟩
theorem iw(gd:J1 B A G s){y:PV}{v:K0}(r:F3 G W0 y v){γ:Type}{f:It->M γ}{P:γ->K1->Prop}{X:C0->K1->Prop}(M0:(F1 (aJ y) f R1).P1 P X):
  ∃l xs k a,v=.J0 l/\x9 k W0 l xs/\(f a R1).P1 P X/\∀q,gG R1 a=E0 q->A4 G W0 q LP:=by
 cases y using P3 with
 |Q0 l=>
  obtain⟨a,vs,n,O,hz,e,rl⟩:=r;exact⟨a,JB,R0,.V5 l,O,⟨_,e,O,_,O⟩,M0,λ q hq=>by obtain O:=H3 hq;exact rl⟩
 |J0 i=>
  obtain⟨hi,O⟩:=r;have M0:(F1 ((match O3 i with|.M1 _=>W1 (nW i 0)|_=>F2 61):M It) f R1).P1 P X:=M0;generalize ex:O3 i=zo at M0;cases zo using EA with
  |M1 l=>
   obtain⟨vs,n,e,rl⟩:=sM gd hi ex;refine⟨Y2 i,JB,I0,.zF i 0,O,M9 e,M0,λ q hq=>?_⟩;have hq:(match O3 i with|.M1 l=>E0 l|_=>H0)=E0 q:=hq;rw[ex]at hq;obtain O:=H3 hq;exact rl
  |_=>exact B4
 |_=>exact B4
end
section
open PyProof.Rows
variable{B:Bs}{A:Around}{G G':Gh}{s s':Shared}{F:Addr->Prop}
variable{g:Nat->Option PV}{cl:Nat->Nat}{n:Nat}{ih:B5}{T:Tab}{cenv:Env}{L:Kinds}{env:PV}{k:Nat}
theorem bk{kd:I1}{h h':O1}{l I:H1}{xs:L4 K0}(hv:x9 kd h l xs)(hl:∀o,B3 l=E0 o->C3 l=E0 o)(hI:C3 I=E0 (BC kd l))(Y6:l≠I):A7 h' I l 0 xs:=by
 cases kd using n7
 ·exact⟨.L2 ⟨⟨_,hI,O,O⟩,hv.at hl⟩,Y6⟩
 ·exact⟨.S2 ⟨⟨_,hI,O,O⟩,hv.at hl⟩,Y6⟩
theorem tO0{k1 k2:I1}{l1 l2:H1}{xs ys:L4 K0}{Q E:K0->D1->Prop}(qU:x9 k1 W0 l1 xs)(KM:x9 k2 W0 l2 ys)
  (h:∀h',uV h' (P2+4) (P2+2) (P2+3) P2 (P2+1) l1 l2 xs ys 0->wF h' (P2+4) (P2+2) (P2+3) .H0->zH W0 h'->Q (.J0 (P2+4)) {s with A3:=h'}):
  V0 R2 A (W7 (.U0 "zip") [.J0 l1,.J0 l2]) Q E s:=by
 refine D50 qU KM λ h' hz sB mA LM fX hk=>h h' ⟨zipApart_new qU.lt KM.lt,sB,bk qU (λ o e=>hk _ _ e) LM (WC qU.lt),bk KM (λ o e=>hk _ _ e) fX (WC (FW KM.lt)),⟨_,mA⟩,.S2 ⟨hz,mA⟩⟩ hz hk
theorem jw{h0 h1 h2:O1}{W:P0 H1}(k1:zH h0 h1)(hW:∀b∈W,h0.hO<=b)(k2:∀b o,b∉W->h1.W5 b=E0 o->h2.W5 b=E0 o):zH h0 h2:=λ b o e=>k2 b o (λ q=>T3 (o9 e) (sb (hW b q))) (k1 b o e)
theorem N60(n:C0):∀b∈[n+4,n+3,n,n+1],n<=b:=λ b hb=>by
 simp only[qD,sD,ZE]at hb;exact ω28 ‹_›
theorem O60(gd:J1 B A G s){T:H1}(h:E3 T=H0):T∉E5:=λ q=>by obtain⟨_,o,e⟩:=Un _ q;rw[h]at e;contradiction
theorem uO0{a b N:C0}(ha:a<=N)(hN:N<=XA):uB a b<=XA:=W6 (wt _ _) (W6 ha hN)
theorem P60(gd:J1 B A G s){h':O1}{tk:O6}{a:H1}{l:PV}{M3:L4 K0}{c:C0}(ha:P2<=a)(k:zH W0 h')(e:C3 a=E0 {O2:=.U0 "list",H2:=H0,L3:=.V5 M3 c,IC:=#[]})(r:A4 G h' l BU):
  J1 B A (o7 (.M1 l) a) {s with A3:=h',y3:=tk}/\Z2 B N2 G s (o7 (.M1 l) a) {s with A3:=h',y3:=tk}/\F3 (o7 (.M1 l) a) h' (.J0 I3) (.J0 a):=by
 obtain⟨g2,I2⟩:=Mf (h':=h') (tk:=tk) (a:=a) (o:=.M1 l) k (NE ha) (W6 M_ ha) ⟨BU,c,by simpa using e,UI (iU _ _) λ b vs n _ e=>e⟩;exact⟨g2,I2,rD _,G6 w6 (w3 O).Y3⟩
theorem Q60(gd:J1 B A G s){h':O1}{tk:O6}{a:H1}{d:PV}{U2:P0 (C1×K0)}(ha:P2<=a)(k:zH W0 h')(e:ff (CD bE kE) a (TK [] U2))(r:S8 G h' d U2):
  J1 B A (o7 (.H2 (MS d)) a) {s with A3:=h',y3:=tk}/\Z2 B N2 G s (o7 (.H2 (MS d)) a) {s with A3:=h',y3:=tk}/\F3 (o7 (.H2 (MS d)) a) h' (.J0 I3) (.J0 a):=by
 have r2:S8 G h' (MS d) (TK [] U2):=Z40 (U2:=[]) vb O r;obtain⟨g2,I2⟩:=Mf (h':=h') (tk:=tk) (a:=a) (o:=.H2 (MS d)) k (NE ha) (W6 M_ ha) ⟨_,e,r2.D5 (iU _ _) λ b vs n _ e=>e⟩;exact⟨g2,I2,rD _,G6 w6 (w3 O).Y3⟩
theorem ck(BF:R7 B g)(X:F5 B n A N0 L O0 G s){x:C1}{T:U6}(RA:QF x=H0/\RJ x=E0 (.U0 T))(hg:D7 L x=I0)(hd:(x==("__debug__":C1))=R0){a:v0}(ha:P8 a=I0){p q:Q3}{K E:K0->D1->Prop}
  (h:V0 R2 A (M5 a N0) (λ u s1=>V0 R2 A (W7 (.U0 T) [u]) K E s1) E s):V0 R2 A (M5 (.B7 (.Z3 x p) [a] [] q) N0) K E s:=by
 refine mM (Bd BF X RA hg hd ?_);have D4:[a].ZA P8=I0:=by simp[ha]
 refine wI (by rw[BL D4];rfl) (zI D4 ?_);rw[vI ha];exact uD (U3 h (λ u s1 h=>GJ ⟨xM,h⟩) λ _ _ h=>h)
theorem vO0(hh:C9=H0)(gd:J1 B A G s){i:C0}{l:PV}(hi:i<I3)(ex:O3 i=.M1 l)(hs:H5 l=I0):U4 B RV N2 A (Dh l) (W7 (.U0 "dict") [.J0 (Y2 i)]) G s:=by
 intro P Q M0;obtain⟨d,hd,M0⟩:=r9 (j6 M0);have M0:P (.J0 I3) (iL (.H2 (MS d))):=M0;obtain⟨vs,c,e,rl⟩:=sM gd hi ex;obtain⟨ts,O,h1,h2,h3⟩:=sO0 rl hd;have bH:UN<=60:=by have:=CL rl hs;simpa using J2
 refine K60 (W:=[]) (n:=UN) (P:=λ k x y=>∃t,ts[k]?=E0 t/\x=t.2.1/\y=t.2.2.1) ⟨_,e,O⟩ (by decide) (λ s' k=>kO0 (A:=iW) (k _ _ e) hh) (λ j5 O_ R E' k eg hR=>?_) λ h' tk U2 k aA hk=>?_
 ·refine QT (k:=I0) (show x9 I0 j5 (Y2 i) _ from(M9 e).at (k _)) ?_;have lt:P2<=j5.hO:=fT0 λ q=>by
   obtain⟨o1,_,_,e1,_⟩:=eg;exact YZ _ (C0.lt_trans (o9 e1) q)
  have MO:(j5.y6 (BC I0 (Y2 i))).PR (CD bE kE) P2 (TK [] []):=eg.y6 _;have up:zH W0 (j5.y6 (BC I0 (Y2 i))):=λ b o e=>S6 _ (k b o e);refine I60 (s:={s with A3:=j5.y6 (BC I0 (Y2 i)),y3:=O_}) ((lO0 (A:=iW) hh (it:=j5.hO) (R4:=Y2 i) (ts:=ts))) (λ k x y zz=>fU zz λ t ht e1 _=>?_) (uM bH) P2 ?_ .H0 _ 0 [] O (MN _) ⟨?_,λ t ht=>up _ _ (h1 t ht),λ t ht=>?_⟩ MO ⟨O,λ j κ v h=>by simp at h⟩ λ h' tk U2 hk aA hl=>?_
  ·obtain⟨κ,u,e2⟩:=h2 t (IL ht);exact⟨κ,u,e1.V2 e2⟩
  ·intro q;rcases dA q with q|q
   ·obtain⟨o1,_,_,e1,_⟩:=eg;exact T3 (o9 e1) (by rw[q];exact YZ _)
   ·rcases dA q with q|q
    ·exact FL e q
    ·obtain⟨t,ht,q⟩:=ca.mp q;exact FL (h1 t ht) SK
  ·exact bk (kd:=I0) (M9 e) (λ o e=>up _ _ e) (BA _ O) (WC (o9 (k _ _ e)))
  ·exact WC (o9 (k _ _ (h1 t ht)))
  ·refine hR h' tk U2 (λ b o _ e=>hk b o (λ q=>?_) (up b o e)) aA hl;rcases dA q with q|q
   ·exact FL e SK
   ·have:b=j5.hO:=by simpa using q
    exact T3 (o9 (k _ _ e)) (by rw[J2];exact YZ _)
 ·have kg:zH W0 h':=λ b o e=>k b o nofun e;obtain⟨g2,I2,r2⟩:=Q60 (tk:=tk) gd (A8 _) kg aA ((h3 U2 hk.1 λ j κ v hj=>by obtain⟨u,t,a1,a2,a3⟩:=hk.2 j κ v hj;exact⟨u,t,a1,a2,a3⟩).D5 (.L5 G) λ b vs n _ e=>kg _ _ e);exact .at (R:=RV) (a:=.J0 I3) I2 g2 r2 M0
end
section
section
open PyProof.Rows
variable{B:Bs}{A:Around}{G G':Gh}{s s':Shared}{F:Addr->Prop}
variable{g:Nat->Option PV}{cl:Nat->Nat}{n:Nat}{ih:B5}{T:Tab}{cenv:Env}{L:Kinds}{env:PV}{k:Nat}
theorem rO{a b:I1}(h:(a&&b)=I0):a=I0/\b=I0:=by simpa using h
theorem R60{x y:It}{γ:Type}{f:PV->M γ}{P:γ->K1->Prop}{X:C0->K1->Prop}{σ:K1}(M0:(F1 (Fq x y) f σ).P1 P X):∃l m,gG σ x=E0 l/\gG σ y=E0 m/\H5 l=I0/\H5 m=I0/\(f (kK l m) σ).P1 P X:=by
 symm;have h0:(F1 (F1 (w5 69 (gG σ x)) (λ l=>F1 (w5 69 (gG σ y)) λ m=>kA 69 (H5 l&&H5 m) (W1 (kK l m)))) f σ).P1 P X:=M0;obtain⟨l,hl,h1⟩:=r9 (j6 (AB h0));obtain⟨m,hm,h2⟩:=r9 (j6 (AB h1));have h3:=j6 h2;obtain⟨hs,h4⟩:=TX h3;ext;exact⟨l,m,hl,hm,(rO hs).1,(rO hs).2,h4⟩
theorem S60{h h':O1}(k:zH h h'){T:H1}(e:C3 T=H0):B3 T=H0:=by
 cases q:B3 T with
 |H0=>rfl
 |E0 o=>rw[k _ _ q]at e;contradiction
def T60:Mk->U6
 |.Q0=>"tuple"|.M1=>"list"|.H2=>"dict"
def AZ(B:Bs)(A:B6)(G:Gh)(s:D1)(P:PV->K1->Prop)(Q:C0->K1->Prop)(x:U6)(vs:P0 K0)(m:Mk)(G0:Gh)(s0:D1):Prop:=
 V0 R2 A (W7 (.U0 x) vs) (λ u s1=>V0 R2 A (W7 (.U0 (T60 m)) [u]) (Po B RV N2 A G0 s0 P) (Px B N2 A G0 s0 Q) s1) (Px B N2 A G0 s0 Q) s
theorem AZ.H8{P:PV->K1->Prop}{Q:C0->K1->Prop}{x:U6}{vs:P0 K0}{m:Mk}{G0:Gh}{s0:D1}(st:Z2 B N2 G0 s0 G s)(h:AZ B A G s P Q x vs m G s):AZ B A G s P Q x vs m G0 s0:=
 U3 h (λ _ _ h=>U3 h (λ _ _ h=>OJ st) λ _ _ h=>OJ st) λ _ _ h=>OJ st
theorem mw{xs:L4 K0}{n:C0}(h:PK=n):xs.u70=n:=h
section
variable{P:PV->K1->Prop}{Q:Nat->K1->Prop}{k1 k2:Bool}{l1 l2:Addr}{xs ys:Array Value}{a1 a2:It}{h':Heap}{z TI TO i1 i2:Addr}
theorem U60{l:PV}(h:A4 G W0 l LP)(hs:H5 l=I0):uB PK Wf<=XA:=by
 have:=CL h hs;rw[qr]at J2;exact uO0 J2 (by rw[HI];decide)
theorem wO0(hh:C9=H0)(g1:J1 B A G s)(AH:∀q,gG R1 a1=E0 q->A4 G W0 q LP)(tR:∀q,gG R1 a2=E0 q->A4 G W0 q ys.XE)(hz:uV h' z TI TO i1 i2 l1 l2 xs ys 0)(AQ:wF h' z TI TO .H0)
  (hk:zH W0 h')(hW:∀b∈[z,TO,i1,i2],P2<=b)(M0:(TM .M1 (.r8 a1 a2) R1).P1 P Q):V0 R2 A (W7 (.U0 "list") [.J0 z]) (Po B RV N2 A G s P) (Px B N2 A G s Q) {s with A3:=h'}:=by
 obtain⟨l,m,hl,hm,jH,hH,h5⟩:=R60 M0;have h5:P (.J0 I3) (iL (.M1 (kK l m))):=h5;have lt:P2<=IB:=GP (wa (hW z (.I8 _)) (o9 AQ));refine bO0 (s:={s with A3:=h'}) VA0 hh (λ A hh=>Xk hh) (U60 (AH _ hl) jH) ⟨_,AQ,O⟩ hz λ h2 tk M3 c k2 e pr=>?_;have gr:=jw hk hW k2;have r:=mO0 ((AH l hl).D5 (.L5 G) λ b vs n _ e=>gr _ _ e) ((tR m hm).D5 (.L5 G) λ b vs n _ e=>gr _ _ e) (M3:=BU) (mw pr.1) λ j v hj=>by
  obtain⟨T,x,y,O,_,e,⟨q1,q2⟩,q0⟩:=pr.2 j v (by simpa using hj);exact⟨x,y,⟨T,O,O60 g1 (S60 hk q0),e⟩,by simpa using q1,by simpa using q2⟩
 obtain⟨g2,I2,r2⟩:=P60 (tk:=tk) g1 lt gr e r;exact .at (R:=RV) (a:=.J0 I3) I2 g2 r2 h5
theorem xO0(hh:C9=H0)(g1:J1 B A G s)(AH:∀q,gG R1 a1=E0 q->A4 G W0 q LP)(tR:∀q,gG R1 a2=E0 q->A4 G W0 q ys.XE)(hz:uV h' z TI TO i1 i2 l1 l2 xs ys 0)(AQ:wF h' z TI TO .H0)
  (hk:zH W0 h')(hW:∀b∈[z,TO,i1,i2],P2<=b)(M0:(TM .H2 (.r8 a1 a2) R1).P1 P Q):V0 R2 A (W7 (.U0 "dict") [.J0 z]) (Po B RV N2 A G s P) (Px B N2 A G s Q) {s with A3:=h'}:=by
 obtain⟨l,m,hl,hm,jH,hH,h5⟩:=R60 M0;obtain⟨d,aA,h5⟩:=r9 (j6 h5);have h5:P (.J0 I3) (iL (.H2 (MS d))):=h5;have lt:P2<=IB:=GP (wa (hW z (.I8 _)) (o9 AQ));have nT:IB∉[z,TO,i1,i2,TI,l1,l2]:=λ q=>by obtain⟨o,e⟩:=(Xk (A:=A) (K3:=bE) (w:=kE) hh).e9 _ _ hz _ q;exact FL e O
 refine K60 (s:={s with A3:=h'}) (W:=[z,TO,i1,i2]) (n:=uB PK Wf) (P:=λ k x y=>xs[k]?=E0 x/\ys[k]?=E0 y) ⟨_,AQ,O⟩ (by decide) (λ s' k=>jO0 (A:=iW) (k _ _ AQ) hh) (λ j5 O_ R E' kk eg hR=>?_) λ h2 tk U2 k2 MO hkv=>?_
 ·refine VA0.iI (s:={s with A3:=j5,y3:=O_}) ⟨_,kk _ _ AQ,O⟩ ?_;refine I60 (s:={s with A3:=j5,y3:=O_}) (Xk (A:=iW) hh).d (λ k x y zz=>vN zz λ e1 e2=>rO0 (AH l hl) (tR m hm) aA (by simpa using e1) (by simpa using e2)) (U60 (AH _ hl) jH) IB nT .H0 _ 0 [] O (MN _) ((Xk (A:=A) (K3:=bE) (w:=kE) hh).DD 0 _ _ IB nT hz (λ b o _ e=>kk b o e) λ o e=>⟨o,kk _ _ e⟩) eg ⟨O,λ j κ v h=>by simp at h⟩ λ h2 tk U2 ZG MO KM=>?_;exact hR h2 tk U2 (λ b o hb e=>ZG b o (λ q=>(dA q).HB (λ q=>FL e SK) hb) (kk b o e)) MO KM
 ·have gr:=jw hk hW k2;have r:=qO0 ((AH l hl).D5 (.L5 G) λ b vs n _ e=>gr _ _ e) ((tR m hm).D5 (.L5 G) λ b vs n _ e=>gr _ _ e) aA (U2:=U2) hkv.1 λ j κ v hj=>by
   obtain⟨t,q1,q2⟩:=hkv.2 j κ v hj;exact⟨t,by simpa using q1,by simpa using q2⟩
  obtain⟨g2,I2,r2⟩:=Q60 (tk:=tk) g1 lt gr MO r;exact .at (R:=RV) (a:=.J0 I3) I2 g2 r2 h5
theorem yO0(hh:C9=H0)(g1:J1 B A G s)(kH:x9 k1 W0 l1 xs)(eX:x9 k2 W0 l2 ys)(AH:∀q,gG R1 a1=E0 q->A4 G W0 q LP)(tR:∀q,gG R1 a2=E0 q->A4 G W0 q ys.XE){m:Mk}
  (M0:(TM m (.r8 a1 a2) R1).P1 P Q):AZ B A G s P Q "zip" [.J0 l1,.J0 l2] m G s:=by
 refine tO0 kH eX λ h' hz AQ hk=>?_;cases m using kf with
 |Q0=>exact B4
 |M1=>exact wO0 hh g1 AH tR hz AQ hk (N60 _) M0
 |H2=>exact xO0 hh g1 AH tR hz AQ hk (N60 _) M0
theorem zO0(hh:C9=H0)(g1:J1 B A G s)(kH:x9 k1 W0 l1 xs)(AH:∀q,gG R1 a1=E0 q->A4 G W0 q LP){m:Mk}(M0:(TM m (.JE 0 a1) R1).P1 P Q):AZ B A G s P Q "enumerate" [.J0 l1] m G s:=by
 refine E50 kH λ h' he LM hk=>?_;cases m using kf with
 |M1=>exact B4
 |H2=>exact B4
 |Q0=>
  have uA:(F1 (w5 69 (gG R1 a1)) (λ l=>kA 69 (H5 l&&Y1 0 0) (W1 (.Q0 (BY l 0)))) R1).P1 P Q:=M0;obtain⟨l,hl,h4⟩:=r9 (j6 uA);obtain⟨hs,h5⟩:=TX h4;have h5:P (.Q0 (BY l 0)) R1:=h5;have n60:PK<=XA:=by have:=CL (AH _ hl) (rO hs).1;rw[qr]at J2;exact uM J2
  have hz:ESt h' (P2+1) P2 l1 xs 0:=⟨aT0 _,WC (FW kH.lt),bk kH (λ o e=>hk _ _ e) LM (WC kH.lt),.H0,.S2 he⟩;refine dO0 (s:={s with A3:=h'}) xV0 O hh (λ A hh=>SO0 hh) n60 ⟨_,he,O⟩ hz λ h2 tk M3 k2 pr=>?_;have gr:zH W0 h2:=jw hk (λ b hb=>Mi (P:=λ b=>P2<=b) (p40.mp hb) (LN _) (A8 _)) k2;have r:=nO0 (n:=0) ((AH l hl).D5 (.L5 G) λ b vs n _ e=>gr _ _ e) (M3:=BU) (mw pr.1) λ j v hj=>by
   obtain⟨T,x,y,O,_,e,⟨q1,q2⟩,q0⟩:=pr.2 j v (by simpa using hj);exact⟨x,y,⟨T,O,O60 g1 (S60 hk q0),e⟩,by simpa using q1,by simpa using q2⟩
  obtain⟨g2,I2⟩:=tA0 (h':=h2.y6 (E8 BU 0)) (tk:=tk) λ b o e=>rA _ _ _ _ (gr b o e);have:=pN (R:=RV) (a:=.Q0 (BY l 0)) (b:=.J0 h2.hO) I2 g2 ⟨_,BU,0,O,λ q=>by obtain⟨_,o,e⟩:=f00 _ q;exact T3 (o9 (gr _ _ e)) (YZ _),BA _ O,UI (.L5 G) λ b vs n _ e=>rA _ _ _ _ e⟩ h5;simpa using J2
theorem AP0(hh:C9=H0)(g1:J1 B A G s){c:C0}{t:O6}{m:Mk}(hm:c<=60)(M0:(TM m (.dG 0 c) R1).P1 P Q):AZ B A G s P Q "range" [.j0 (.N4 c) t] m G s:=by
 cases m using kf with
 |Q0=>exact B4
 |H2=>exact B4
 |M1=>
  have h5:P (.J0 I3) (iL (.M1 (Dq c 0))):=M0;refine E90 ?_;have Y7:n80 0 (FA c) 1=(c:A2):=by
   rw[A90]
   split
   ·simp
   ·rename_i q;have:(FA c:A2)=c:=O;exact ω30 ‹_›
  refine call_list_range hh (e90 ..) (q90 (by decide) (by decide) (by have:(0:A2)<=FA c:=JL c;exact JL _) (by have:(FA c:A2)<=60:=y80 hm;omega)) Y7 (by exact BM ‹_› O) λ h2 tk M3 c' k2 e pr=>?_;have gr:zH W0 h2:=λ b o e=>k2 b o (rA _ _ _ _ e);obtain⟨g2,I2,r2⟩:=P60 (tk:=tk) g1 (GP (by rw[TD];exact rD _)) gr e (oO0 (n:=c) (a:=0) (mw pr.1) λ j v hj=>by
   obtain⟨t,O⟩:=pr.2 j v (by simpa using hj);exact⟨t,by simp⟩)
  exact .at (R:=RV) (a:=.J0 I3) I2 g2 r2 h5
end
theorem ow(BF:R7 B g)(LV:Lv B g cl n ih):Rd B g cl n ih:=by
 intro A G s N0 L O0 k m a p q X hg ha;intro P Q M0;have RA:QF (fe m)=H0/\RJ (fe m)=E0 (.U0 (T60 m)):=by
  cases m using kf with
  |Q0=>exact tN _ _ (IL (i:=4) O)
  |M1=>exact tN _ _ (IL (i:=5) O)
  |H2=>exact tN _ _ (IL (i:=6) O)
 have hd:(fe m==("__debug__":C1))=R0:=by cases m<;>decide
 have sh:=s10 (cE g cl k L) L a;generalize cI (cE g cl k L) L a=c at sh M0;cases sh using CI.W9 with
 |r8 e1 e2 p' q' aX hf=>
  have M0:(F1 (P5 (cE g cl k L e1) O0) (λ y=>F1 (P5 (cE g cl k L e2) O0) λ y2=>F1 (aJ y) λ x=>F1 (aJ y2) λ z=>TM m (.r8 x z)) R1).P1 P Q:=
   BK (AB M0) λ _ _ h=>BK (AB h) λ _ _ h=>BK (AB h) λ _ _ h=>AB h
  refine ck BF X RA hg hd ha (F50 BF v8 X (tN "zip" (.U0 "zip") (IL (i:=7) O)) aX (by decide) (λ _=>xM) (jj hf).1 (jj hf).2 M0 λ G1 s1 y u y2 u2 D2 g1 ru lV A5=>?_);obtain⟨l1,xs,k1,a1,O,kH,uA,AH⟩:=iw g1 ru A5;obtain⟨l2,ys,k2,a2,O,eX,Cv,tR⟩:=iw g1 lV uA;exact(yO0 Eo g1 kH eX AH tR Cv).H8 D2
 |JE e1 p' q' aX hf=>
  have M0:(F1 (P5 (cE g cl k L e1) O0) (λ y=>F1 (aJ y) λ x=>TM m (.JE 0 x)) R1).P1 P Q:=BK (AB M0) λ _ _ h=>AB h;refine ck BF X RA hg hd ha (mV BF v8 X (tN "enumerate" (.U0 "enumerate") (IL (i:=8) O)) aX (by decide) (λ _=>xM) (Dd hf) M0 λ G1 s1 y u D2 g1 ru A5=>?_);obtain⟨l1,xs,k1,a1,O,kH,uA,AH⟩:=iw g1 ru A5;exact(zO0 Eo g1 kH AH uA).H8 D2
 |Ym e1 p' q' aX hf=>
  have M0:(F1 (P5 (cE g cl k L e1) O0) (λ v=>F1 ((match v with|.j0 (.N4 n)=>bif O9 n 60 then W1 (.dG 0 n)else F2 65|_=>F2 65):M It) (TM m)) R1).P1 P Q:=AB M0;refine ck BF X RA hg hd ha (mV BF v8 X (tN "range" (.U0 "range") (IL (i:=9) O)) aX (by decide) (λ _=>xM) (Dd hf) M0 λ G1 s1 y u D2 g1 ru A5=>?_);obtain⟨c,t,O,hm,A5⟩:∃c t,u=.j0 (FA c) t/\O9 c 60=I0/\(TM m (.dG 0 c) mF).P1 P Q:=by
   cases y using P3 with
   |j0 i=>
    cases i using SL with
    |N4 c=>
     change(F1 (bif O9 c 60 then W1 (YU 0 c)else F2 65) (TM m) mF).P1 P Q at A5;cases hm:O9 c 60 with
     |R0=>rw[hm]at A5;exact SP
     |I0=>
      rw[hm]at A5;obtain⟨t,e⟩:=ru;exact⟨c,t,e,hm,A5⟩
    |_=>exact SP
   |_=>exact SP
  exact(AP0 Eo g1 (i6 hm) A5).H8 D2
 |V5=>
  refine ck BF X RA hg hd ha ((v8 X).q8 M0 λ G1 s1 y u D2 g1 ru A5=>?_);cases m using kf with
  |Q0=>exact(PL0 g1 ru).H8 D2 A5
  |M1=>exact(RL0 Eo g1 ru).H8 D2 A5
  |H2=>
   cases y using P3 with
   |J0 i=>
    have ru':=ru;obtain⟨hi,O⟩:=ru;change((match eW i with|.H2 l=>bif H5 l then Q9 (.H2 l)else F2 69|.M1 l=>bif H5 l then Dh l else F2 69|_=>F2 69:M PV) mF).P1 P Q at A5;generalize ex:eW i=zo at A5;cases zo using EA with
    |H2 l=>
     cases hs:H5 l with
     |R0=>dsimp only at A5;rw[hs]at A5;exact SP
     |I0=>dsimp only at A5;rw[hs]at A5;exact(QL0 g1 ru' O ex hs).H8 D2 A5
    |M1 l=>
     cases hs:H5 l with
     |R0=>dsimp only at A5;rw[hs]at A5;exact SP
     |I0=>dsimp only at A5;rw[hs]at A5;exact(vO0 Eo g1 hi ex hs).H8 D2 A5
    |_=>exact SP
   |_=>exact SP
 |M2=>
  cases m<;>exact B4
end
end
section
open PyProof.Rows
variable{B:Bs}{A:Around}{G G':Gh}{s s':Shared}{F:Addr->Prop}
theorem BP0{M3:L4 K0}(h1:V00=1):∃v,M3=#[v]:=by
 obtain⟨v,hv⟩:=P0.length_eq_one_iff.mp (show M3.u70=1 by rw[qr];exact h1);exact⟨v,by rw[<-Sr (xs:=M3),hv]⟩
theorem qw(n:C0):Sd B n:=by
 intro A G s y v C6 gd r P Q M0;symm;have hh:=C6.nZ;cases y using P3 with
 |J0 i=>
  obtain⟨hi,O⟩:=r;change(F1 (w5 24 (rg (O3 i))) (λ k=>Q9 (.M1 (.A0 (.Y0 k) .B0))) R1).P1 P Q at M0;obtain⟨k,hk,hP⟩:=r9 (j6 M0);cases ex:O3 i with
  |H2 l=>
   rw[ex]at hk;cases l using P3 with
   |kv k' v' r'=>
    cases r' using P3 with
    |B0=>
     obtain O:=H3 hk;obtain⟨U2,hd,rd⟩:=gQ gd hi ex;obtain⟨x,u,q,O,h0,hx,_,e3⟩:=rd;have e3:q=[]:=e3;subst e3 hx;obtain⟨ep,D8⟩:=VV0;ext;refine call_function_entry kind_sorted plain_sorted entry_sorted (args_sorted1 _) ?_;refine S0 (m:=checkCount "sorted" 1 1 _) (E2 ?_);refine S0 (kdu_collect (A:=pB) (qV0 (lC:=xO.CD bE kE) (nM gd hi (by rw[ex];simp))) hh D8 (by rw[HI];simp) λ h' tk M3 JC C7=>?_);symm;obtain⟨h1,h2⟩:=C7;obtain⟨v,O⟩:=BP0 h1;obtain⟨k2,x2,e2,ZG⟩:=h2 0 v O;ext;cases e2;obtain⟨t,O⟩:=tT0 ZG;refine S0 (wpAny_newList ?_ (by rw[HI];simp));have ho:(Uf (Yy "list" [Wn x t].N8 0)).W5 IB=E0 (Yy "list" [Wn x t].N8 0):=BA _ O;refine S0 (z7 (TC slot_list_sort ⟨_,ho,O⟩ entry_list_sort (list_sort_treeK (vs:=[.Y0 x t]) strKind_oneLt ho (StrsAre.keysOf (strsAre_map _ λ v hv=>⟨x,t,by simpa using hv⟩)) (λ _ _ _ e=>by simp at e) (by simp) λ QA hp _=>⟨_,O,?_⟩) (args_list_sort _)));have hout:(arrOf QA).Y4 (·.2)=#[.Y0 x t]:=by
      have h3:(arrOf QA).XE.Perm [(.Y0 x t,.Y0 x t)]:=by
       have:=L4.perm_iff_toList_perm.mp hp
       rwa [pairsOf_toList]at J2
      rw[<-Sr (xs:=arrOf QA),P0.perm_singleton.mp h3];simp
     rw[hout];symm;obtain⟨e,he⟩:=sortedHeap_at (out:=#[.Y0 x t]) ho;have kg:∀b o,E3 b=E0 o->(FV0 (Uf (Yy "list" [Wn x t].N8 0)) IB [.Y0 x t] #[.Y0 x t]).W5 b=E0 o:=λ b o e=>by
      have e1:=JC b o e;rw[sortedHeap_old (WC (o9 e1)) (by rw[size_push'];exact FW (o9 e1))];exact S6 _ e1
     have ht:E3 IB=H0:=by
      cases q:E3 IB with
      |H0=>rfl
      |E0 o=>exact T3 (o9 (JC _ _ q)) (YZ _)
     have lt:RH.hO<=IB:=B.uf h' (qR _ _ (λ b o e _=>JC _ _ e) gd.JG) λ b o e h1 h2 h3=>JC _ _ (EC b o e h1 h2 h3);obtain⟨g2,I2⟩:=Mf (h':=FV0 (Uf (Yy "list" [Wn x t].N8 0)) IB [.Y0 x t] #[.Y0 x t]) (tk:=tk) (a:=IB) (o:=.M1 (.A0 (.Y0 (vc x)) .B0)) kg ht lt ⟨[.Y0 x t],e,he,_,_,O,⟨h0,_,_,O,O⟩,O⟩;ext;exact E2 ⟨_,O,.at (R:=RV) (a:=.J0 I3) I2 g2 ⟨rD _,G6 w6 (w3 O).Y3⟩ hP⟩
    |_=>contradiction
   |_=>contradiction
  |_=>
   ext;rw[ex]at hk;contradiction
 |_=>exact B4
end
section
open PyProof.Rows
variable{ι:Nat->Nat}{K:Nat}{B:Bs}{A:Around}{G G0 G1:Gh}{s s':Shared}{F:Addr->Prop}
structure Ja(G0 G:Gh)(ι:C0->C0)(K:C0):Prop where
 av:Sz=E5
 le:K<=SW.n
 em:∀i,i<K->ι i<I3/\G0.ρ i=Y2 (ι i)
theorem fk(X:Ja G0 G ι K){h:O1}:∀{p:PV},PD K p=I0->(∀v,F3 G0 h p v↔F3 G h (XM ι p) v)/\(∀l,A4 G0 h p l↔A4 G h (XM ι p) l):=by
 intro p;induction p with
 |J0 i=>
  intro hg;have hi:i<K:=i6 hg;exact⟨λ v=>⟨λ⟨_,e⟩=>⟨(iE i hi).1,e.V2 (G6 _ (iE i hi).2)⟩,λ⟨_,e⟩=>⟨U8 hi on,e.V2 (G6 _ (iE i hi).2.Y3)⟩⟩,λ _=>qF⟩
 |A0 a r IG PA=>
  intro hg;have hg:=rO hg;refine⟨λ _=>qF,λ l=>⟨λ⟨v,q,e,x,y⟩=>⟨v,q,e,((IG hg.1).1 v).mp x,((PA hg.2).2 q).mp y⟩,λ⟨v,q,e,x,y⟩=>⟨v,q,e,((IG hg.1).1 v).B8 x,((PA hg.2).2 q).B8 y⟩⟩⟩
 |Q0 l ih=>
  intro hg;refine⟨λ v=>⟨λ⟨a,vs,k,e,z,x,y⟩=>⟨a,vs,k,e,by rw[<-p_];exact z,x,((ih hg).2 vs).mp y⟩,λ⟨a,vs,k,e,z,x,y⟩=>⟨a,vs,k,e,by rw[p_];exact z,x,((ih hg).2 vs).B8 y⟩⟩,λ _=>qF⟩
 |ty=>intro hg;contradiction
 |wr=>intro hg;contradiction
 |lC=>intro hg;contradiction
 |_=>intro _;exact⟨λ _=>qF,λ _=>qF⟩
theorem gk(X:Ja G0 G ι K){h:O1}:∀{p:PV},PD K p=I0->∀l,S8 G0 h p l↔S8 G h (XM ι p) l:=by
 intro p;induction p with
 |kv k v r _ ih=>
  intro hg l;have hg:=rO hg;exact⟨λ⟨x,u,q,e,h0,hx,hv,hr⟩=>⟨x,u,q,e,h0,hx,((fk X hg.1).1 u).mp hv,(ih hg.2 q).mp hr⟩,λ⟨x,u,q,e,h0,hx,hv,hr⟩=>⟨x,u,q,e,h0,hx,((fk X hg.1).1 u).B8 hv,(ih hg.2 q).B8 hr⟩⟩
 |_=>intro _ _;exact qF
theorem tw{o:AO}(h:KQ o=I0):∃l,o=.V6 l:=by cases o using EA<;>first|exact⟨_,O⟩|contradiction
theorem CP0(X:Ja G0 G ι K){h:O1}{a:H1}{o:AO}(hg:LQ SW K o=I0)(x:vE B G h a (DV ι o)):vE B G0 h a o:=by
 cases o using EA with
 |M1 l=>obtain⟨vs,k,e,r⟩:=x;exact⟨vs,k,e,((fk X hg).2 vs).B8 r⟩
 |H2 l=>obtain⟨U2,d,r⟩:=x;exact⟨U2,d,(gk X hg U2).B8 r⟩
 |V6 l=>obtain⟨U2,o,e,hc,hn,nd,r⟩:=x;exact⟨U2,o,e,hc,hn,nd,(gk X hg U2).B8 r⟩
 |u7 c d=>
  have hg:=rO hg;have hd:d<K:=by simpa[EH]using hg.1
  obtain⟨e,_⟩:=x;exact⟨by rw[(iE d hd).2];exact e,U8 hd on,tw hg.2⟩
 |R4=>exact x
 |_=>contradiction
theorem DP0(X:Ja G0 G ι K){h:O1}{a:H1}{o:AO}(hg:LQ SW K o=I0)(hf:∀d,d<K->KQ (JI d)=I0->KQ (O3 (ι d))=I0)(x:vE B G0 h a o):vE B G h a (DV ι o):=by
 cases o using EA with
 |M1 l=>obtain⟨vs,k,e,r⟩:=x;exact⟨vs,k,e,((fk X hg).2 vs).mp r⟩
 |H2 l=>obtain⟨U2,d,r⟩:=x;exact⟨U2,d,(gk X hg U2).mp r⟩
 |V6 l=>obtain⟨U2,o,e,hc,hn,nd,r⟩:=x;exact⟨U2,o,e,hc,hn,nd,(gk X hg U2).mp r⟩
 |u7 c d=>
  have hg:=rO hg;have hd:d<K:=by simpa[EH]using hg.1
  obtain⟨e,_⟩:=x;exact⟨by rw[<-(iE d hd).2];exact e,(iE d hd).1,tw (hf d hd hg.2)⟩
 |R4=>exact x
 |_=>contradiction
structure BG(G0 G:Gh)(ι:C0->C0)(K:C0):Prop extends Ja G0 G ι K where
 m:SW.m=0
 ne:G0.jP=[]
 Z0:∀i,K<=i->JI i=.K4
 n8:∀i,i<K->JI i=.K4\/(LQ SW K (JI i)=I0/\O3 (ι i)=DV ι (JI i))
 KT:∀i j,i<K->j<K->JI i≠.K4->JI j≠.K4->ι i=ι j->i=j
theorem EP0{ι:C0->C0}{σ:K1}{k:C0}{o:AO}(h:LQ σ k o=I0):DV ι o≠.K4:=by
 cases o using EA<;>first|(intro q;contradiction;done)|cases h
theorem BG.lt(X:BG G0 G ι K){i:C0}(h:JI i≠.K4):i<K:=C0.lt_of_not_le λ q=>h (X.Z0 i q)
theorem BG.NF(X:BG G0 G ι K){i:C0}(h:JI i≠.K4):i<K/\LQ SW K (JI i)=I0/\O3 (ι i)=DV ι (JI i)/\O3 (ι i)≠.K4:=by
 have hi:=X.lt h;rcases X.n8 i hi with q|⟨q1,q2⟩
 ·exact T3 q h
 ·exact⟨hi,q1,q2,q2▸EP0 q1⟩
theorem BG.fl(X:BG G0 G ι K):∀d,d<K->KQ (JI d)=I0->KQ (O3 (ι d))=I0:=λ d hd hf=>by
 obtain⟨l,hl⟩:=tw hf;obtain⟨_,_,q,_⟩:=t_ (i:=d) (by rw[hl];simp);rw[q,hl];rfl
theorem BG.good(X:BG G0 G ι K)(g:J1 B A G s):J1 B A G0 s:=by
 refine⟨⟨λ i hi=>?_,λ i hi=>?_,λ p hp=>?_⟩,⟨λ i j hi hj ni nj e=>?_,λ i hi=>?_,λ i hi=>X.Z0 i (W6 on hi),λ i hi hn=>?_,by rw[p_];exact xD⟩,QB,gE,SJ⟩
 ·rw[X.m]at hi;exact T3 hi (NG _)
 ·rw[X.m]at hi;exact T3 hi (NG _)
 ·rw[X.ne]at hp;contradiction
 ·obtain⟨a1,_,_,a4⟩:=t_ ni;obtain⟨b1,_,_,b4⟩:=t_ nj;rw[(iE i a1).2,(iE j b1).2]at e;exact X.KT i j a1 b1 ni nj (QG _ _ (iE i a1).1 (iE j b1).1 a4 b4 e)
 ·by_cases ha:JI i=.K4
  ·rw[ha];trivial
  ·obtain⟨a1,a2,a3,_⟩:=t_ ha;have:=GA _ (iE i a1).1;rw[a3,<-(iE i a1).2]at J2;exact CP0 X.toEmb a2 J2
 ·obtain⟨a1,_,_,a4⟩:=t_ hn;rw[(iE i a1).2];exact vC _ (iE i a1).1 a4
theorem BG.kU(X:BG G0 G ι K)(g:J1 B A G s)(st:Z2 B N2 G0 s G1 s')(g1:J1 B A G1 s')(hk:∀i,i<K->eW i=JI i):J1 B A G s'/\Z2 B N2 G s G s':=by
 have s9:∀b,u9 G0 b->u9 G b:=λ b zz=>fU zz λ i hi hn e=>by
  obtain⟨a1,_,_,a4⟩:=t_ hn;exact⟨ι i,(iE i a1).1,a4,(iE i a1).2.Y3.V2 e⟩
 have E1:Ja G1 G ι K:=⟨LX.V2 p_,W6 on xT.n,λ i hi=>⟨(iE i hi).1,(b_ i (U8 hi on)).V2 (iE i hi).2⟩⟩;have tQ:iD=E5:=LX.V2 p_;have Q0:zB E5 W0 T6:=by rw[<-p_];exact DX
 refine⟨⟨FE,⟨QG,λ i hi=>?_,XL,vC,by rw[<-tQ];exact f00⟩,Q00,g1.JG,g1.fr⟩,⟨Ff,.L5 G,λ b x=> .S2 x,Zf,λ b o e h1 h2 h3=>GX b o e (λ q=>h1 (s9 b q)) h2 h3,Q0,xW⟩⟩;by_cases ha:O3 i=.K4
 ·rw[ha];trivial
 ·by_cases ho:u9 G0 (Y2 i)
  ·obtain⟨j,hj,hn,e⟩:=ho;obtain⟨a1,a2,a3,a4⟩:=t_ hn;have:ι j=i:=QG _ _ (iE j a1).1 hi a4 ha ((iE j a1).2.Y3.V2 e);subst J2;have ob:=g1.Op j (U8 hj xT.n);rw[b_ j hj,hk j a1,(iE j a1).2]at ob;rw[a3];have hfl:∀d,d<K->KQ (eW d)=I0->KQ (O3 (ι d))=I0:=λ d hd hf=>X.fl d hd (hk d hd▸hf);have WF:LQ mF K (JI j)=I0:=by
    cases q:JI j with
    |u7 c d=>
     rw[q]at a2;have hg:=rO a2;have hd:d<K:=by simpa[EH]using hg.1
     show(X6 d K&&KQ (eW d))=I0;rw[hg.1,hk d hd,hg.2];rfl
    |_=>rw[q]at a2;exact a2
   exact DP0 E1 WF hfl ob
  ·refine(GA i hi).D5 (.L5 G) Q0 xW (λ ob e=>?_) λ d l _ x=>⟨l,x⟩;obtain⟨jM,e',Ca⟩:=(GA i hi).e9 ha;rw[e]at e';obtain O:=H3 e';obtain⟨o',e2,q⟩:=GX _ ob e ho (λ q=>q) λ hz=>by
    obtain⟨o,e⟩:=Sn _ hz;rw[vC i hi ha]at e;contradiction
   rw[q.eq (λ q=>Ca (.L2 (.S2 q))) (λ q=>Ca (.L2 (.L2 (.S2 q))))]at e2;exact e2
theorem jk{h:O1}:∀{p:PV},PD 0 p=I0->(∀v,F3 G h p v↔mJ E5 p h v)/\(∀l,A4 G h p l↔M30 E5 p h l):=by
 intro p;induction p with
 |J0 i=>intro hg;exact T3 (i6 hg) (fi i)
 |A0 a r IG PA=>
  intro hg;have hg:=rO hg;refine⟨λ _=>qF,λ l=>⟨λ⟨v,q,e,x,y⟩=>⟨v,q,e,((IG hg.1).1 v).mp x,((PA hg.2).2 q).mp y⟩,λ⟨v,q,e,x,y⟩=>⟨v,q,e,((IG hg.1).1 v).B8 x,((PA hg.2).2 q).B8 y⟩⟩⟩
 |Q0 l ih=>
  intro hg;refine⟨λ v=>⟨λ⟨a,vs,k,e,z,x,y⟩=>⟨a,vs,k,e,z,x,((ih hg).2 vs).mp y⟩,λ⟨a,vs,k,e,z,x,y⟩=>⟨a,vs,k,e,z,x,((ih hg).2 vs).B8 y⟩⟩,λ _=>qF⟩
 |ty=>intro hg;contradiction
 |wr=>intro hg;contradiction
 |lC=>intro hg;contradiction
 |_=>intro _;exact⟨λ _=>qF,λ _=>qF⟩
theorem BX:∀t:Ty,PD 0 TF=I0
 |u8=>O|uE=>O|X=>O
 |W8 t=>by show(I0&&(PD 0 TF&&I0))=I0;rw[FP0 t];rfl
 |X8 t=>by show(I0&&(I0&&(I0&&((PD 0 TF&&I0)&&I0))))=I0;rw[FP0 t];rfl
theorem Uz:∀t:Ty,PD 0 pU=I0
 |u8=>O|uE=>O|X=>O
 |W8 t=>by show(I0&&(I0&&(((I0&&(I0&&((PD 0 pU&&I0)&&I0)))&&I0)&&I0)))=I0;rw[GP0 t];rfl
 |X8 t=>by show(I0&&(I0&&(((I0&&(I0&&((PD 0 pU&&I0)&&I0)))&&I0)&&I0)))=I0;rw[GP0 t];rfl
theorem HP0{h:O1}{i:C0}{v:K0}:F3 G h (.ty i) v↔i<PB/\F3 G h (I5 i).p v:=QT0 λ _=>((jk (BX _)).1 v).Y3
theorem V60{h:O1}{i:C0}{v:K0}:F3 G h (.wr i) v↔i<PB/\F3 G h (I5 i).w v:=QT0 λ _=>((jk (Uz _)).1 v).Y3
theorem Yd{h:O1}{p:PV}(hg:PD 0 p=I0)(tQ:Sz=E5){v:K0}:F3 G0 h p v↔F3 G h p v:=by
 rw[(jk hg).1,(jk hg).1,tQ]
end
section
variable{ι:Nat->Nat}{K:Nat}{B:Bs}{A:Around}{G G0 G1:Gh}{s s':Shared}{n:Nat}
theorem IP0:∀{a b:A2},Pa a b=I0->a=b
 |.N4 m,.N4 n,h=>by rw[L6 h]
 |.KB m,.KB n,h=>by rw[L6 h]
 |.N4 _,.KB _,h=>by contradiction
 |.KB _,.N4 _,h=>by contradiction
theorem sO:∀{p q:PV},YM p q=I0->p=q:=by
 intro p;induction p with
 |H0=>intro q h;cases q using P3<;>first|rfl|contradiction
 |N3 b=>intro q h;cases q using P3 with|N3 c=>(cases b using n7<;>cases c using n7<;>first|rfl|(contradiction;done))|_=>contradiction
 |j0 i=>intro q h;cases q using P3 with|j0 j=>rw[IP0 h]|_=>contradiction
 |Y0 m=>intro q h;cases q using P3 with|Y0 k=>rw[L6 h]|_=>contradiction
 |AG m=>intro q h;cases q using P3 with|AG k=>rw[L6 h]|_=>contradiction
 |B0=>intro q h;cases q using P3<;>first|rfl|contradiction
 |A0 a r IG PA=>intro q h;cases q using P3 with|A0 b t=>obtain⟨h1,h2⟩:=ZF h;rw[IG h1,PA h2]|_=>contradiction
 |kv k v r ihv PA=>intro q h;cases q using P3 with|kv k' b t=>obtain⟨h0,h⟩:=ZF h;obtain⟨h1,h2⟩:=ZF h;rw[L6 h0,ihv h1,PA h2]|_=>contradiction
 |Q0 l ih=>intro q h;cases q using P3 with|Q0 m=>rw[ih h]|_=>contradiction
 |J0 i=>intro q h;cases q using P3 with|J0 j=>rw[L6 h]|_=>contradiction
 |Z0 i=>intro q h;cases q using P3 with|Z0 j=>rw[L6 h]|_=>contradiction
 |_=>intro q h;contradiction
theorem W60{o q:AO}(h:yq o q=I0):o=q:=by
 cases o using EA<;>cases q using EA<;>first|rfl|(contradiction;done)|(rw[sO h])|(obtain⟨h1,h2⟩:=ZF h;rw[L6 h1,L6 h2])
theorem X60{σ τ:K1}{k:C0}(h:RS σ τ k=I0):∀i,i<k->AA i=τ.n8 i:=λ i hi=>W60 (KU h i hi)
theorem Y60{c:PV->K1->I1}:∀{o:I7 PV},pA c o=I0->WH (λ a s=>c a s=I0) λ _ _=>I6:=by
 intro o;induction o with
 |x8 a s=>exact λ h=>h
 |J8 i s=>intro h;contradiction
 |YH n k ih=>exact λ h d hd=>ih d (KU h d hd)
 |eJ w=>intro h;contradiction
def AI:C0->P0 Ty
 |0=>[.u8,.uE,.X]
 |n+1=>[.u8,.uE,.X]++((AI n).Y4 .W8++(AI n).Y4 .X8)
theorem Z60{n:C0}:∀{t:Ty},uR<=n->t∈AI n:=by
 induction n with
 |i9=>
  intro t h;cases t using OG with
  |u8=>exact .I8 _
  |uE=>exact .w7 _ (.I8 _)
  |X=>exact .w7 _ (.w7 _ (.I8 _))
  |_=>exact T3 h (fi _)
 |c9 n ih=>
  intro t h;cases t using OG with
  |u8=>exact .I8 _
  |uE=>exact .w7 _ (.I8 _)
  |X=>exact .w7 _ (.w7 _ (.I8 _))
  |W8 t=>exact OZ [Vz,.uE,.X] (BT0 _ (AP ⟨t,ih (N80 h),O⟩))
  |X8 t=>exact OZ [Vz,.uE,.X] (OZ _ (AP ⟨t,ih (N80 h),O⟩))
theorem JP0:∀{n:C0}{t:Ty},t∈AI n->uR<=n:=by
 intro zq;induction zq with
 |i9=>
  intro t h;have h:t∈[Vz,.uE,.X]:=h;simp only[qD,sD,ZE]at h;rcases h with O|O|O<;>exact A8 _
 |c9 n ih=>
  intro t h;have h:t∈[Vz,.uE,.X]++((AI n).Y4 .W8++(AI n).Y4 .X8):=h;simp only[List.mem_append,ca,qD,sD,ZE]at h;rcases h with(O|O|O)|⟨u,hu,O⟩|⟨u,hu,O⟩
  ·exact MN _
  ·exact MN _
  ·exact MN _
  ·exact yJ (ih hu)
  ·exact yJ (ih hu)
theorem wV{E:B5}(HC:jO B n E)(X:BG G0 G ι K)(gd:J1 B A G s)(C6:M8 n A){f:C0}{L1:PV}{K5:P0 K0}(ra:A4 G0 W0 L1 K5){c:PV->K1->I1}(hr:pA c (E.K2 (.Z0 f) L1 SW)=I0)
  (hc:∀p σ,c p σ=I0->PD 0 p=I0/\RS σ SW K=I0){Q E':K0->D1->Prop}
  (hQ:∀v s' p σ,J1 B A G s'->Z2 B N2 G s G s'->F3 G T6 p v->c p σ=I0->Q v s'):V0 R2 A (W7 (.J0 f) K5) Q E' s:=by
 refine U3 (HC (f:=.Z0 f) (fv:=.J0 f) C6 (iA0 gd) (show F3 G0 W0 (.Z0 f) (.J0 f)from O) ra _ _ (Y60 hr)) (λ v s' ⟨G1,p,st,g1,rp,hp⟩=>?_) λ e s' ⟨_,_,_,_,_,h⟩=>V4;obtain⟨h1,h2⟩:=hc p mF hp;obtain⟨g2,I2⟩:=X.kU gd st g1 (X60 h2);exact hQ v s' p mF g2 I2 ((Yd h1 (LX.V2 p_)).mp rp) hp
theorem nk(ρ:C0->H1)(τ:C0->Ty)(k:C0):BG ⟨⟨.B0,k,.B0,0,[]⟩,ρ,τ,E5⟩ G ι 0 where
 av:=O
 le:=MN _
 em:=λ i hi=>T3 hi (NG i)
 m:=O
 ne:=O
 Z0:=λ i _=>O
 n8:=λ i hi=>T3 hi (NG i)
 KT:=λ i j hi=>T3 hi (NG i)
end
section
def BZ:W3->W3
 |.c7 k p b=>bif Y1 k 0 then .c7 k p b else .fn p b
 |e=>e
def Ta:jI:=⟨λ a=>BZ (j7 a),TB.lA,TB.J10,TB.c7⟩
def Ra:B5:=jD EB Ta 100
def tO:K1:=⟨((Se (.u7 SQ 1) 0).w8 (.V6 (.kv IY (.J0 2) (.kv JY (.J0 3) .B0))) 1),4,.B0,0,[]⟩
def qk(q p:PV)(σ:K1):I1:=bif YM p q then RS σ tO 4 else R0
def a60(q p:PV)(σ:K1):I1:=YM p q
def xV(l:P0 Ty)(f:Ty->I1):I1:=@cL Ty (λ _=>I1) I0 (λ t _ ih=>bif f t then ih else R0) l
theorem CZ{f:Ty->I1}:∀{l:P0 Ty},xV l f=I0->∀t∈l,f t=I0:=by
 intro l;induction l with
 |B0=>exact λ _ _ h=>by contradiction
 |A0 t l ih=>
  intro h u hu;obtain⟨h1,h2⟩:=ZF h;rcases dA hu with O|hu
  ·exact h1
  ·exact ih h2 u hu
theorem KP0:xV (AI 2) (λ t=>pA (qk TF) (aR (.Z0 418) (.A0 (.J0 0) (.A0 TF .B0)) tO))=I0:=by kernel_rfl
theorem LP0:xV (AI 2) (λ t=>pA (a60 TF) (aR (.Z0 203) (.A0 TF (.A0 (.J0 0) .B0)) ⟨.B0,1,.B0,0,[]⟩))=I0:=by kernel_rfl
theorem MP0(k:C0):xV (AI 2) (λ t=>pA (qk (.N3 R0)) (aR (.Z0 425) (.A0 (.J0 0) (.A0 (.Q0 (.A0 (.Y0 Uh) (.A0 (.j0 (.N4 k)) .B0))) (.A0 TF .B0))) tO))=I0:=by kernel_rfl
theorem NP0:xV (AI 2) (λ t=>pA (a60 pU) (aR (.Z0 911) (.A0 TF .B0) SS))=I0:=by kernel_rfl
def uw(p:PV)(σ:K1):I1:=match PM p with|E0 n=>bif O9 n 2000 then PD 0 p else R0|H0=>R0
theorem OP0:xV (AI 2) (λ t=>pA uw (aR (.Z0 229) (.A0 TF .B0) SS))=I0:=by kernel_rfl
def Zd(n:C0)(p:PV)(σ:K1):I1:=bif (AI n).K4 (λ t=>YM p TF)then RS σ jG 1 else R0
theorem PP0:pA (Zd 0) (aR (.Z0 904) (.A0 (.J0 0) (.A0 (.j0 0) .B0)) jG)=I0:=by kernel_rfl
theorem QP0:pA (Zd 1) (aR (.Z0 904) (.A0 (.J0 0) (.A0 (.j0 1) .B0)) jG)=I0:=by kernel_rfl
theorem RP0:pA (Zd 2) (aR (.Z0 904) (.A0 (.J0 0) (.A0 (.j0 2) .B0)) jG)=I0:=by kernel_rfl
end
section
section
variable{B:Bs}{A:Around}{G G0 G1:Gh}{s s':Shared}{n:Nat}
def LT.ZA{α:Type}(f:C0->α->I1)(t:LT α):I1:=@lA0 α (λ _=>I1) I0 (λ k v _ _ a b=>bif f k v then(bif a then b else R0)else R0) t
theorem qm{α:Type}{f:C0->α->I1}{d:α}{x:C0}:∀{t:LT α},t.ZA f=I0->WX d x=d\/f x (WX d x)=I0:=by
 intro t;induction t with
 |B0=>exact λ _=> .S2 O
 |S3 k v l r il ir=>
  intro h;obtain⟨h1,h⟩:=ZF h;obtain⟨h2,h3⟩:=ZF h;show(@O8 (λ _=>α) (@O8 (λ _=>α) (Gg d x) (Fg d x) (X6 x k)) v (Y1 x k))=d\/f x (@O8 (λ _=>α) (@O8 (λ _=>α) (Gg d x) (Fg d x) (X6 x k)) v (Y1 x k))=I0;cases hx:Y1 x k with
  |I0=>rw[L6 hx];exact .L2 h1
  |R0=>
   cases hb:X6 x k with
   |I0=>exact il h2
   |R0=>exact ir h3
def b60(k:C0):C0:=bif Y1 k 0 then 846 else bif Y1 k 1 then 904 else bif Y1 k 2 then 418 else bif Y1 k 3 then 203 else bif Y1 k 4 then 425 else bif Y1 k 5 then 229 else bif Y1 k 6 then 446 else bif Y1 k 7 then 911 else 582
def SP0(a:C0)(e:W3):I1:=match e with
 |.c7 k _ _=>Y1 a (b60 k)
 |_=>I0
theorem TP0:nz SP0=I0:=by kernel_rfl
theorem c60{a k:C0}{p:Pm}{b:S}(h:gP a=.c7 k p b):a=b60 k:=by
 rcases qm (d:=T_) (x:=a) TP0 with q|q
 ·have:j7 a=.no:=q;rw[show gP a=j7 a from O,J2]at h;contradiction
 ·rw[show Ii.l9 T_ a=zm k p b from h]at q;exact L6 q
theorem UP0{a k:C0}{p:Pm}{b:S}(h:pz a=.c7 k p b):gP a=.c7 k p b/\k=0:=by
 change BZ (j7 a)=_ at h;show j7 a=_/\_;generalize e:j7 a=zo at h;cases zo using iZ with
 |c7 k' p' b'=>
  change(bif Y1 k' 0 then zm k' p' b' else .fn p' b')=_ at h;cases hk:Y1 k' 0 with
  |I0=>rw[hk]at h;cases h;exact⟨O,L6 hk⟩
  |R0=>rw[hk]at h;contradiction
 |_=>contradiction
section
inductive xw:PV->Q1 C0->Prop
 |no p:xw p H0
 |E6 i:xw (.J0 i) (E0 i)
inductive yw:PV->Q1 C0->Prop
 |no p:yw p H0
 |E6 i:yw (.ty i) (E0 i)
inductive Ax:PV->Q1 C0->Prop
 |no p:Ax p H0
 |E6 i:Ax (.wr i) (E0 i)
inductive Bx:PV->Q1 C0->Prop
 |no p:Bx p H0
 |E6 n:Bx (.j0 (.N4 n)) (E0 n)
inductive Cx:PV->Q1 (C0×PV×PV)->Prop
 |no p:Cx p H0
 |E6 k v r:Cx (.kv k v r) (E0 (k,v,r))
inductive Ex:AO->Q1 (C0×C0)->Prop
 |no o:Ex o H0
 |E6 c d:Ex (.u7 c d) (E0 (c,d))
inductive Fx:AO->Q1 PV->Prop
 |no o:Fx o H0
 |E6 l:Fx (.V6 l) (E0 l)
inductive Gx:AO->I1->Prop
 |no o:Gx o R0
 |E6:Gx .R4 I0
theorem VP0(p:PV):xw p (QS p):=by cases p using P3<;>first|exact .E6 _|exact .no _
theorem WP0(p:PV):yw p (ZX p):=by cases p using P3<;>first|exact .E6 _|exact .no _
theorem wrP_sh(p:PV):Ax p (wrP p):=by cases p using P3<;>first|exact .E6 _|exact .no _
theorem XP0(p:PV):Bx p (Lb p):=by
 cases p using P3 with
 |j0 i=>cases i using SL<;>first|exact .E6 _|exact .no _
 |_=>exact .no _
theorem YP0(p:PV):Cx p (Ar p):=by cases p using P3<;>first|exact .E6 _ _ _|exact .no _
theorem yV0(o:AO):Ex o (uy o):=by cases o using EA<;>first|exact .E6 _ _|exact .no _
theorem ZP0(o:AO):Fx o (Br o):=by cases o using EA<;>first|exact .E6 _|exact .no _
theorem aP0(o:AO):Gx o (Vh o):=by cases o using EA<;>first|exact .E6|exact .no _
variable{p a b c r:PV}{i k:Nat}
theorem DZ(h:QS p=E0 i):p=.J0 i:=by
 have q:=VP0 p;rw[h]at q;cases q;rfl
theorem jd(h:ZX p=E0 i):p=.ty i:=by
 have q:=WP0 p;rw[h]at q;cases q;rfl
theorem wrP_of(h:wrP p=E0 i):p=.wr i:=by
 have q:=wrP_sh p;rw[h]at q;cases q;rfl
theorem Hx(h:Lb p=E0 i):p=.j0 (.N4 i):=by
 have q:=XP0 p;rw[h]at q;cases q;rfl
theorem bP0(h:Ar p=E0 (k,a,r)):p=.kv k a r:=by
 have q:=YP0 p;rw[h]at q;cases q;rfl
theorem zV0{o:AO}(h:uy o=E0 (k,i)):o=.u7 k i:=by
 have q:=yV0 o;rw[h]at q;cases q;rfl
theorem cP0{o:AO}(h:Br o=E0 p):o=.V6 p:=by
 have q:=ZP0 o;rw[h]at q;cases q;rfl
theorem d60{o:AO}(h:Vh o=I0):o=.R4:=by
 have q:=aP0 o;rw[h]at q;cases q;rfl
theorem xJ{α:Type}{b:I1}{x:Q1 α}{y:α}(h:(bif b then x else H0)=E0 y):b=I0/\x=E0 y:=by
 cases b using n7 with
 |I0=>exact⟨O,h⟩
 |R0=>contradiction
theorem Jx(h:a1 p=E0 a):p=.A0 a .B0:=by
 obtain⟨⟨x,y⟩,hx,h⟩:=n9 h;obtain⟨h1,h2⟩:=xJ h;obtain O:=H3 h2;rw[HQ hx,show y=_ from yU h1]
theorem yV(h:a2 p=E0 (a,b)):p=.A0 a (.A0 b .B0):=by
 obtain⟨⟨x,y⟩,hx,h⟩:=n9 h;obtain⟨z,hy,h⟩:=QQ h;obtain⟨O,O⟩:=lZ h;rw[HQ hx,show y=_ from Jx hy]
theorem dP0(h:a3 p=E0 (a,b,c)):p=.A0 a (.A0 b (.A0 c .B0)):=by
 obtain⟨⟨x,y⟩,hx,h⟩:=n9 h;obtain⟨z,hy,h⟩:=QQ h;obtain⟨O,O⟩:=lZ h;rw[HQ hx,show y=_ from yV hy]
theorem e60{x:C0}(h:Cr x p=E0 (i,r)):p=.kv x (.J0 i) r:=by
 obtain⟨⟨q1,q2,q3⟩,hq,h⟩:=n9 h;obtain⟨h1,h2⟩:=xJ h;obtain⟨j,hj,h⟩:=QQ h2;obtain⟨O,O⟩:=lZ h;rw[bP0 hq,show q2=_ from DZ hj,show q1=x from L6 h1]
theorem f60{σ:K1}{o:AO}(h:Dr SQ σ o=I0):∃d x y,o=.u7 SQ d/\AA d=.V6 (.kv IY (.J0 x) (.kv JY (.J0 y) .B0)):=by
 symm;obtain⟨d,h⟩:=ZS0 h;obtain⟨⟨c,d'⟩,hx,h⟩:=n9 h;obtain⟨h1,h⟩:=xJ h;obtain⟨l,hl,h⟩:=n9 h;obtain⟨⟨x,l2⟩,hq,h⟩:=n9 h;obtain⟨⟨y,l3⟩,hr,h⟩:=n9 h;obtain⟨h2,_⟩:=xJ h;have e2:l2=_:=e60 hr;have e3:l3=_:=yU h2;ext;exact⟨d',x,y,by rw[zV0 hx,show c=SQ from L6 h1],by rw[show AA d'=_ from cP0 hl,e60 hq,e2,e3]⟩
end
def EZ(a d x y:C0):C0->C0
 |0=>a|1=>d|2=>x|_=>y
theorem g60(i:C0):U_ i=if i=1 then .V6 (.kv IY (.J0 2) (.kv JY (.J0 3) .B0))else if i=0 then .u7 SQ 1 else .K4:=by
 show((Se (.u7 SQ 1) 0).w8 (.V6 (.kv IY (.J0 2) (.kv JY (.J0 3) .B0))) 1).l9 i=_;rw[IH,IH];rfl
theorem wk{i:C0}(h:i<4):i=0\/i=1\/i=2\/i=3:=by exact ω18 _ ‹_›
theorem h60(gd:J1 B A G s){a d x y:C0}(ha:a<I3)(h1:O3 a=.u7 SQ d)(h2:O3 d=.V6 (.kv IY (.J0 x) (.kv JY (.J0 y) .B0))):BG ⟨tO,λ i=>Y2 (EZ a d x y i),I5,E5⟩ G (EZ a d x y) 4:=by
 symm;have ob:=UL a ha;rw[h1]at ob;have hd:=ob.2;have od:=UL d hd;rw[h2]at od;obtain⟨U2,o,e,hc,hn,nd,r⟩:=od;obtain⟨x1,u1,q1,_,_,_,hx,r⟩:=r;obtain⟨x2,u2,q2,_,_,_,hy,_⟩:=r;ext;refine{av:=O,le:=A8 _,em:=λ i hi=>⟨?_,O⟩,m:=O,ne:=O,Z0:=λ i hi=>?_,n8:=λ i hi=>?_,KT:=λ i j hi hj ni nj e=>?_}
 ·rcases wk hi with O|O|O|O
  ·exact ha
  ·exact hd
  ·exact hx.1
  ·exact hy.1
 ·show U_ i=_;rw[g60,u3 (by omega),u3 (by omega)]
 ·show U_ i=_\/(LQ tO 4 (U_ i)=_/\_=DV _ (U_ i));rcases wk hi with O|O|O|O
  ·right;exact⟨by rfl,h1⟩
  ·right;exact⟨by rfl,h2⟩
  ·left;rfl
  ·left;rfl
 ·symm;have ni:U_ i≠.K4:=ni;have nj:U_ j≠.K4:=nj;rw[g60]at ni nj;ext;rcases wk hi with O|O|O|O<;>rcases wk hj with O|O|O|O<;>first|rfl|exact T3 O ni|exact T3 O nj|skip
  ·have e:a=d:=e;rw[e,h2]at h1;contradiction
  ·have e:d=a:=e;rw[e,h1]at h2;contradiction
theorem i60(gd:J1 B A G s){a d x y:C0}{v:K0}(r:F3 G W0 (.J0 a) v):F3 ⟨tO,λ i=>Y2 (EZ a d x y i),I5,E5⟩ W0 (.J0 0) v:=⟨(by show 0<4;decide),r.2⟩
theorem j60{q p:PV}{σ:K1}(hq:PD 0 q=I0)(h:qk q p σ=I0):PD 0 p=I0/\RS σ tO 4=I0:=by
 obtain⟨h1,h2⟩:=ZF h;rw[sO h1];exact⟨hq,h2⟩
theorem l60{q p:PV}{σ:K1}(h:qk q p σ=I0):p=q:=sO (ZF h).1
theorem M8.le{n m:C0}(x:M8 m A)(h:n<=m):M8 n A:=⟨q00,by have:=Ho;exact ω59 ‹_› ‹_›,by have:=Go;exact ω37 ‹_› ‹_›⟩
theorem eP0{p:PV}{h:O1}{v:K0}(q:Q20 p=I0)(r:F3 G h p v):∃c,v=.J0 c:=by
 cases p using P3 with
 |Z0 a=>exact⟨a,r⟩
 |J0 j=>exact⟨_,r.2⟩
 |_=>exact T3 q LG
theorem qd(gd:J1 B A G s){i:C0}{v:K0}(r:F3 G W0 (.ty i) v)(tQ:Sz=E5):i<PB/\I5 i∈AI 2/\F3 G0 W0 (I5 i).p v:=by
 obtain⟨hi,r⟩:=HP0.mp r;exact⟨hi,Z60 (Wz.dI i hi),(Yd (BX _) tQ).B8 r⟩
section
variable{P:PV->K1->Prop}{X:Nat->K1->Prop}{args:PV}{vals:List Value}{o:Out PV}(HC:jO B 110 Ra)(room:M8 110 A)(gd:Good B A G s)(ra:A4 G s.heap args vals)
include HC room gd ra
theorem fP0(ho:T20 SQ L1 R1=E0 o)(M0:WH P X):V0 R2 A (W7 (.J0 418) K5) (Po B RV N2 A G s P) (Px B N2 A G s X) s:=by
 symm;obtain⟨⟨q1,q2⟩,e1,ho⟩:=n9 ho;obtain⟨a,e2,ho⟩:=n9 ho;obtain⟨i,e3,ho⟩:=n9 ho;obtain⟨hi,ho⟩:=xJ ho;obtain O:=H3 ho;obtain O:=DZ e2;obtain O:=jd e3;obtain O:=yV e1;obtain⟨d,x,y,h1,h2⟩:=f60 hi;obtain⟨v1,l1,O,r1,v2,l2,O,r2,O⟩:=ra;have S:=h60 gd r1.1 h1 h2;obtain⟨hi,ht,r3⟩:=qd (G0:=⟨tO,λ j=>Y2 (EZ a d x y j),I5,E5⟩) gd r2 O;ext;exact wV (L1:=.A0 (.J0 0) (.A0 (I5 i).p .B0)) HC S gd C6 ⟨_,_,O,i60 gd r1,_,_,O,r3,O⟩ (CZ KP0 _ ht) (λ p σ h=>j60 (BX _) h) λ v s' p σ g2 I2 rp hc=>by
  rw[l60 hc]at rp;exact .at (R:=RV) (a:=.ty i) I2 g2 (qz ⟨hi,rp⟩) M0
theorem gP0(ho:V20 SQ L1 R1=E0 o)(M0:WH P X):V0 R2 A (W7 (.J0 425) K5) (Po B RV N2 A G s P) (Px B N2 A G s X) s:=by
 symm;obtain⟨⟨q1,q2,q3⟩,e1,ho⟩:=n9 ho;obtain⟨a,e2,ho⟩:=n9 ho;obtain⟨l,e3,ho⟩:=n9 ho;obtain⟨⟨x1,x2⟩,e4,ho⟩:=n9 ho;obtain⟨v,e5,ho⟩:=n9 ho;obtain⟨k,e6,ho⟩:=n9 ho;obtain⟨i,e7,ho⟩:=n9 ho;obtain⟨hi,ho⟩:=xJ ho;obtain⟨hv,ho⟩:=xJ ho;obtain O:=H3 ho;obtain O:=Ih e5;obtain O:=Hx e6;obtain O:=yV e4;obtain O:=DZ e2;obtain O:=o10 e3;obtain O:=jd e7;obtain O:=dP0 e1;rw[L6 hv]at ra;obtain⟨d,x,y,h1,h2⟩:=f60 hi;obtain⟨v1,l1,O,r1,v3,l3,O,r3,v2,l2,O,r2,O⟩:=ra;have S:=h60 gd r1.1 h1 h2;obtain⟨hi,ht,r4⟩:=qd (G0:=⟨tO,λ j=>Y2 (EZ a d x y j),I5,E5⟩) gd r2 O;have r5:=(Yd (G0:=⟨tO,λ j=>Y2 (EZ a d x y j),I5,E5⟩) (p:=.Q0 (.A0 (.Y0 Uh) (.A0 (.j0 (.N4 k)) .B0))) (h:=W0) (v:=v3) O O).B8 r3;ext;exact wV (L1:=.A0 (.J0 0) (.A0 (.Q0 (.A0 (.Y0 Uh) (.A0 (.j0 (.N4 k)) .B0))) (.A0 (I5 i).p .B0))) HC S gd C6 ⟨_,_,O,i60 gd r1,_,_,O,r5,_,_,O,r4,O⟩ (CZ (MP0 k) _ ht) (λ p σ h=>j60 O h) λ w s' p σ g2 I2 rp hc=>by
  rw[l60 hc]at rp;exact .at (R:=RV) (a:=.N3 R0) I2 g2 rp M0
theorem hP0(ho:U20 L1 R1=E0 o)(M0:WH P X):V0 R2 A (W7 (.J0 203) K5) (Po B RV N2 A G s P) (Px B N2 A G s X) s:=by
 have T7:∀{i:C0}{v1:K0}{c:H1},F3 G W0 (.ty i) v1->P (.ty i) R1->V0 R2 A (W7 (.J0 203) [v1,.J0 c]) (Po B RV N2 A G s P) (Px B N2 A G s X) s:=λ{i v1 c} r1 hP=>by
  have S:=nk (G:=G) (ι:=λ i=>i) (λ _=>c) I5 1;obtain⟨hi,ht,r3⟩:=qd (G0:=⟨⟨.B0,1,.B0,0,[]⟩,λ _=>c,I5,E5⟩) gd r1 O;exact wV (L1:=.A0 (I5 i).p (.A0 (.J0 0) .B0)) HC S gd C6 ⟨_,_,O,r3,_,_,O,⟨CU0,O⟩,O⟩ (CZ LP0 _ ht) (λ p σ h=>⟨by rw[sO h];exact BX _,O⟩) λ v s' p σ g2 I2 rp hc=>by
   rw[sO hc]at rp;exact .at (R:=RV) (a:=.ty i) I2 g2 (qz ⟨hi,rp⟩) hP
 obtain⟨⟨q1,q2⟩,e1,ho⟩:=n9 ho;obtain⟨i,e2,ho⟩:=n9 ho;obtain⟨h1,ho⟩:=xJ ho;obtain O:=H3 ho;obtain O:=jd e2;obtain O:=yV e1;obtain⟨v1,l1,O,r1,v2,l2,O,r2,O⟩:=ra;obtain⟨c,O⟩:=eP0 h1 r2;exact T7 r1 M0
theorem iP0(ho:W20 L1 R1=E0 o)(M0:WH P X):V0 R2 A (W7 (.J0 229) K5) (Po B RV N2 A G s P) (Px B N2 A G s X) s:=by
 obtain⟨q1,e1,ho⟩:=n9 ho;obtain⟨i,e2,ho⟩:=n9 ho;obtain O:=H3 ho;obtain O:=jd e2;obtain O:=Jx e1;obtain⟨v1,l1,O,r1,O⟩:=ra;have S:=nk (G:=G) (ι:=λ i=>i) (λ _=>0) I5 0;obtain⟨hi,ht,r3⟩:=qd (G0:=⟨SS,λ _=>0,I5,E5⟩) gd r1 O;refine wV (L1:=.A0 (I5 i).p .B0) HC S gd C6 ⟨_,_,O,r3,O⟩ (CZ OP0 _ ht) (λ p σ h=>?_) λ v s' p σ g2 I2 rp hc=>?_
 ·unfold uw at h;generalize PM p=r at h;cases r using Y9 with
  |H0=>contradiction
  |E0 m=>exact⟨(ZF h).2,O⟩
 ·unfold uw at hc;generalize hm:PM p=r at hc;cases r using Y9 with
  |H0=>contradiction
  |E0 m=>
   obtain⟨x,t,O,hl⟩:=Ej rp hm;exact .at (R:=RV) (a:=.AG 2000) I2 g2 ⟨_,_,O,W6 hl (i6 (ZF hc).1)⟩ M0
theorem jP0(ho:X20 L1 R1=E0 o)(M0:WH P X):V0 R2 A (W7 (.J0 911) K5) (Po B RV N2 A G s P) (Px B N2 A G s X) s:=by
 symm;obtain⟨q1,e1,ho⟩:=n9 ho;obtain⟨i,e2,ho⟩:=n9 ho;obtain O:=H3 ho;obtain O:=jd e2;obtain O:=Jx e1;obtain⟨v1,l1,O,r1,O⟩:=ra;have S:=nk (G:=G) (ι:=λ i=>i) (λ _=>0) I5 0;obtain⟨hi,ht,r3⟩:=qd (G0:=⟨SS,λ _=>0,I5,E5⟩) gd r1 O;ext;exact wV (L1:=.A0 (I5 i).p .B0) HC S gd C6 ⟨_,_,O,r3,O⟩ (CZ NP0 _ ht) (λ p σ h=>⟨by rw[sO h];exact Uz _,O⟩) λ v s' p σ g2 I2 rp hc=>by
  rw[sO hc]at rp;exact .at (R:=RV) (a:=.wr i) I2 g2 (V60.B8 ⟨hi,rp⟩) M0
end
end
end
section
variable{B:Bs}{A:Around}{G G0 G1 G2:Gh}{s s':Shared}{F:Addr->Prop}{n:Nat}
variable{g:Nat->Option PV}{cl:Nat->Nat}{cenv:Env}{L:Kinds}{env:PV}{ih:B5}{T:Tab}{FZ:Nat->Bool}
def Kx(o o':AO):Prop:=o'=o\/(o=.R4/\∃a b,o'=.M1 (.A0 (.j0 a) (.A0 (.j0 b) .B0)))
theorem Kx.K4{o o':AO}(h:Kx o o'):o=.K4↔o'=.K4:=by
 rcases h with O|⟨O,a,b,O⟩
 ·exact qF
 ·exact⟨λ q=>(by contradiction),λ q=>(by contradiction)⟩
theorem TB0(gd:J1 B A G s)(g2:J1 B A G2 s')(st:Z2 B F G s G2 s')(hn:Lo=I3)(hm:QR.m=PB)(D8:∀j,Kx (O3 j) (en j)):J1 B A G s'/\Z2 B F G s G s':=by
 symm;have le:G2.Le G:=⟨FP hn,λ i hi=>(b_ i (hn▸hi)).Y3,LX.Y3,FP hm,λ i hi=>(st.NX i (hm▸hi)).Y3⟩;have s9:∀b,u9 G2 b->u9 G b:=λ b zz=>fU zz λ i hi ha e=>⟨i,hn▸hi,λ q=>ha ((D8 i).K4.mp q),(b_ i (hn▸hi)).Y3.V2 e⟩;ext;refine⟨⟨Wz,⟨gd.bp,λ i hi=>?_,gd.inv.big,gd.wR0,by rw[<-LX];exact g2.t70⟩,cU,g2.JG,g2.fr⟩,⟨Ff,.L5 G,λ b x=> .S2 x,Zf,GX,DX,xW⟩⟩;symm;have ob:=g2.Op i (hn.Y3▸hi);rw[b_ i hi]at ob;rcases D8 i with q|⟨q,a,b,q2⟩
 ·rw[q]at ob;ext;refine ob.D5 le (λ _ _ _ _ e=>e) (.L5 _) (λ _ e=>e) λ d l hd e=>?_;rcases D8 d with z|⟨z,a,b,z2⟩
  ·exact⟨l,z▸e⟩
  ·rw[z2]at e;contradiction
 ·rw[q2]at ob;ext;rw[q];symm;obtain⟨vs,k,e,v1,l1,O,⟨t,O⟩,v2,l2,O,⟨u,O⟩,e3⟩:=ob;have e3:l2=[]:=e3;subst e3;ext;exact⟨a,t,b,u,k,e⟩
theorem J1.kP0(gd:J1 B A G s){i:C0}(hi:i<I3)(h:O3 i=.R4):∃x y,J1 B A (aI i (.M1 (.A0 (.j0 x) (.A0 (.j0 y) .B0)))) s/\Z2 B N2 G s (aI i (.M1 (.A0 (.j0 x) (.A0 (.j0 y) .B0)))) s:=by
 have ob:=UL i hi;rw[h]at ob;obtain⟨x,t,y,u,k,e⟩:=ob;exact⟨x,y,dz (h':=W0) (tk:=X4) hi (by rw[h];simp -u4) (by simp -u4) (λ l q=>by rw[h]at q;contradiction) (λ b o _ e=>e) ⟨_,k,e,_,_,O,⟨t,O⟩,_,_,O,⟨u,O⟩,O⟩⟩
def N9(B:Bs)(A:B6)(N0:o6)(G:Gh)(O0:PV)(e:v0)(i:A2):Prop:=
 ∀(s:D1)(E:K0->D1->Prop),J1 B A G s->T5 B N0 D0 O0 G W0->V0 R2 A (M5 e N0) (λ v s'=>(∃t,v=.j0 i t)/\Z2 B N2 G s G s'/\J1 B A G s') E s
theorem DF{i:A2}{j:C0}{p:Q3}:N9 B A N0 G O0 (.G8 (.j0 i) j p) i:=λ s E gd er=>ui ⟨⟨_,O⟩,(KJ _).2,(KJ _).1⟩
theorem DJ(ES:j9 N0 L){x:C1}{p:Q3}{i:A2}(hn:w4 x=I0)(hl:l7 L x=I0)(hv:H4 (vc x) O0=E0 (.j0 i)):N9 B A N0 G O0 (.Z3 x p) i:=
 λ s E gd er=>rI ES er hn hl hv λ u zz=>wL zz λ t e=>⟨⟨t,e⟩,.L5 ..,gd⟩
theorem pD{op:tZ}{l r:v0}{p:Q3}{a b c:A2}(hl:N9 B A N0 G O0 l a)(hr:N9 B A N0 G O0 r b)
  (lX:∀(s:D1)(t u:O6)(Q E:K0->D1->Prop),Q (.j0 c X4) {s with y3:=X4+1}->V0 R2 A (Am op (.j0 a t) (.j0 b u)) Q E s):N9 B A N0 G O0 (.H_ l op r p) c:=λ s E gd er=>
 cU0 (U3 (hl s E gd er) (λ v s1 ⟨⟨t,e⟩,D2,g1⟩=>by
  subst e;exact U3 (hr s1 E g1 (EI D2)) (λ w s2 ⟨⟨u,e⟩,I2,g2⟩=>by
   subst e;exact lX s2 _ _ _ _ ⟨⟨_,O⟩,(AC I2).V2 (S00 _).2,(S00 _).1⟩) λ _ _ h=>h) λ _ _ h=>h)
theorem iT(BF:R7 B g)(ES:j9 N0 L)(RA:QF "int"=H0/\RJ "int"=E0 (.U0 "int"))(hg:D7 L "int"=I0){a:v0}(ha:P8 a=I0){i:A2}{p q:Q3}(h:N9 B A N0 G O0 a i):N9 B A N0 G O0 (.B7 (.Z3 "int" p) [a] [] q) i:=λ s E gd er=>by
 refine mM (ZV BF ES gd RA hg (by decide) ?_);have D4:[a].ZA P8=I0:=by simp -u4 [ha]
 refine wI (by rw[BL D4];rfl) (zI D4 ?_);rw[vI ha];exact uD (U3 (h s E gd er) (λ v s1 ⟨⟨t,e⟩,D2,g1⟩=>by
  subst e;exact GJ ⟨xM,call_int_int ⟨⟨_,O⟩,D2,g1⟩⟩) λ _ _ h=>h)
theorem GZ(ES:j9 N0 L){x:C1}{p1 p2 p3:Q3}{c:C0}{i:C0}{l:PV}{j z:A2}(hn:w4 x=I0)(hl:l7 L x=I0)(hv:H4 (vc x) O0=E0 (.J0 i))(D8:O3 i=.M1 l)(hz:JS l j=E0 (.j0 z)):
  N9 B A N0 G O0 (.xC (.Z3 x p1) (.G8 (.j0 j) c p2) p3) z:=λ s E gd er=>by
 refine eY (rI ES er hn hl hv λ u ru=>ui ?_);obtain⟨g1,D2⟩:=KJ (X4+1);obtain⟨T',id,i1,i2,i3⟩:=jt (F:=N2) (o:=.J0 i) (i:=.j0 j) g1 (NK D2) ⟨_,O⟩ (P:=λ p σ=>p=.j0 z/\σ=R1) (X:=λ _ _=>I6) (by
  show(w5 27 (Sp (.j0 j) (O3 i)) R1).P1 _ _;rw[D8];show(w5 27 (JS l j) R1).P1 _ _;rw[hz];exact⟨O,O⟩)
 refine⟨T',id,i1,i2,U3 i3 (λ v s2 ⟨G2,a,I2,g2,rv,e1,e2⟩=>?_) λ _ _ ⟨_,_,_,_,_,h⟩=>V4⟩;subst e1;obtain⟨g3,S5⟩:=TB0 g1 g2 I2 (by rw[e2]) (by rw[e2]) λ j=> .S2 (by rw[e2]);exact⟨rv,AC S5,g3⟩
theorem yk(CT:XD B T)(ON:xE)(HE:x7 B g cl n ih)(X:F5 B n A N0 L O0 G s){t e:v0}{i:A2}{I4:P0 U5}{C2:Q3}{k:C0}(h1:WM t e=I0)(h2:iG (YF t)=I0)(h3:mK t e=I0)(hq:∀X5 gs sc p,e≠.NB X5 gs sc p)(ev:N9 B A N0 G O0 e i)
  {P:PV->K1->Prop}{CO:LJ->D1->Prop}{KG:K0->D1->Prop}(M0:(XC FZ T ih (cT L (cE g cl k L) t) (.j0 i) O0 R1).P1 P λ _ _=>I6)
  (hK:∀G2 T8 s2,Z2 B (C5 N0 L) G s G2 s2->J1 B A G2 s2->T5 B N0 D0 T8 G2 IN->P T8 QR->V0 R2 A (jC I4 N0) CO KG s2):V0 R2 A (jC (.MF [t] e C2::I4) N0) CO KG s:=by
 refine xA ?_;refine S0 (yA ?_);rcases Xv (N0:=N0) (UH:=a_) h1 with q|⟨q,⟨X5,gs,sc,p2,O⟩,_⟩
 ·rw[q];refine S0 (E2 ?_);refine PI LG ?_;refine S0 (U3 (ev s KG VB OR) (λ v s1 ⟨⟨u,ev⟩,D2,g1⟩=>?_) λ _ _ h=>h);subst ev;refine U3 (Ck CT ON HE (GC D2 g1) h3 h2 (p:=.j0 i) ⟨u,O⟩ M0) (λ f s2 ⟨hf,G2,T8,I2,g2,Q6,hp⟩=>?_) λ _ _ ⟨_,_,_,_,_,h⟩=>V4;subst hf;exact hK G2 T8 s2 ((bC λ _ q=>P6).V2 I2) g2 Q6 hp
 ·exact T3 O (hq _ _ _ _)
end
section
section
variable{B:Bs}{A:Around}{G G0 G1 G2:Gh}{s s':Shared}{F:Addr->Prop}{n:Nat}
def m60:P0 U5:=[.If (eQ .Gt (eS (eN "source" 733 7 13) (eI 0 733 14 15) 733 7 16) (eI 0 733 19 20) 733 7 20) [.MF [(eN "drawn" 734 8 13)] (eO .mX (eC (eN "int" 734 16 19) [(eS (eN "source" 734 20 26) (eI 0 734 27 28) 734 20 29)] 734 16 30) (eN "top" 734 33 36) 734 16 36) ⟨734,8,734,36⟩,.MF [(eS (eN "source" 735 8 14) (eI 0 735 15 16) 735 8 17)] (eO .FA0 (eS (eN "source" 735 20 26) (eI 0 735 27 28) 735 20 29) (eN "top" 735 33 36) 735 20 36) ⟨735,8,735,36⟩,.QK (E0 (eN "drawn" 736 15 20)) ⟨736,8,736,20⟩] [] ⟨733,4,736,20⟩,
 .MF [(eS (eN "source" 737 4 10) (eI 1 737 11 12) 737 4 13)] (eO .mX (eC (eN "int" 737 16 19) [(eO .oU (eO .nP (eS (eN "source" 737 20 26) (eI 1 737 27 28) 737 20 29) (eI 39373 737 32 37) 737 20 37) (eI 7 737 40 41) 737 20 41)] 737 16 42) (eI 2147483647 737 45 55) 737 16 55) ⟨737,4,737,55⟩,
 .QK (E0 (eO .mX (eC (eN "int" 738 11 14) [(eO .FA0 (eO .mX (eC (eN "int" 738 15 18) [(eO .nP (eS (eN "source" 738 19 25) (eI 1 738 26 27) 738 19 28) (eS (eN "source" 738 31 37) (eI 1 738 38 39) 738 31 40) 738 19 40)] 738 15 41) (eI 2147483629 738 44 54) 738 15 54) (eI 32 738 58 60) 738 15 60)] 738 11 61) (eN "top" 738 64 67) 738 11 67)) ⟨738,4,738,67⟩]
theorem lP0:H.fB (hU 72)=m60:=by kernel_rfl
def ud:W3->W3
 |.c7 _ p b=> .fn p b
 |e=>e
def Tz:jI:=⟨λ a=>ud (j7 a),TB.lA,TB.J10,TB.c7⟩
theorem mP0{T T':jI}(h:∀a k,V_ a=.O2 k↔PF a=.O2 k){c:C0}(hc:T9 T' c=I0):T9 T c=I0:=by
 unfold T9 at hc ⊢;generalize e:V_ c=t at hc;cases t using iZ with
 |O2 k=>rw[(h c k).mp e];exact hc
 |_=>contradiction
section
variable{g:Nat->Option PV}{cl:Nat->Nat}{T T':Tab}
def WE.DO(XB:WE B T)(h:∀a k,V_ a=.O2 k↔PF a=.O2 k):WE B T':=⟨XB.l,λ c hc=>MU c (mP0 h hc),zW⟩
def wJ.DO{BF:R7 B g}{XB:WE B T}(XI:wJ BF cl XB)(h:∀a k,V_ a=.O2 k↔PF a=.O2 k):wJ BF cl (XB.DO h):=
 ⟨hA0,XI.gv,XI.p,XI.b,IJ,XI.pm,XI.O4,XI.jv,XI.JN0,XI.nv,XI.qv,XI.J8⟩
def NM.DO(X:NM B g cl T)(h:∀a k,V_ a=.O2 k↔PF a=.O2 k)(hf:∀a p b,(V_ a=.fn p b\/∃k,V_ a=.c7 k p b)->(PF a=.fn p b\/∃k,PF a=.c7 k p b)):NM B g cl T':=
 ⟨uN,X.MB,X.XB.DO h,X.XI.DO h,λ c k e=>n_ c k ((h c k).mp e),mn,λ a p b e=>X.FT a p b (hf a p b e),X.LB⟩
end
theorem o60(a:C0)(k:Cl):wA0 a=.O2 k↔gP a=.O2 k:=by
 show ud (j7 a)=_↔j7 a=_;cases j7 a using iZ with
 |c7 _ p b=>show xA0 p b=_↔_;simp
 |_=>exact qF
theorem nP0(a:C0)(k:Cl):pz a=.O2 k↔gP a=.O2 k:=by
 show BZ (j7 a)=_↔j7 a=_;cases j7 a using iZ with
 |c7 k' p b=>show(bif Y1 k' 0 then zm k' p b else .fn p b)=_↔_;cases Y1 k' 0<;>simp
 |_=>exact qF
theorem p60(a:C0)(p:Pm)(b:S)(h:wA0 a=.fn p b\/∃k,wA0 a=.c7 k p b):gP a=.fn p b\/∃k,gP a=.c7 k p b:=by
 change ud (j7 a)=_\/∃k,ud (j7 a)=_ at h;show j7 a=_\/∃k,j7 a=_;generalize j7 a=x at h ⊢;cases x using iZ with
 |c7 k' p' b'=>
  have h:xA0 p' b'=.fn p b\/∃k,xA0 p' b'=.c7 k p b:=h;simp at h ⊢;exact h
 |_=>exact h
theorem oP0(a:C0)(p:Pm)(b:S)(h:pz a=.fn p b\/∃k,pz a=.c7 k p b):gP a=.fn p b\/∃k,gP a=.c7 k p b:=by
 change BZ (j7 a)=_\/∃k,BZ (j7 a)=_ at h;show j7 a=_\/∃k,j7 a=_;cases e:j7 a with
 |c7 k' p' b'=>
  rw[e]at h;change(bif Y1 k' 0 then zm k' p' b' else .fn p' b')=_\/∃k,(bif Y1 k' 0 then zm k' p' b' else .fn p' b')=_ at h;cases hk:Y1 k' 0<;>rw[hk]at h<;>simp at h ⊢<;>exact h
 |_=>rw[e]at h;exact h
theorem pP0(X:NM B gF cl TB)(m:C0):Lv B gF cl m (jD EB Tz m):=
 Vk (X.DO o60 p60) 0 (λ m A G s a k p b L1 K5 o P Q h=>by
  change ud (j7 a)=_ at h;cases e:j7 a<;>rw[e]at h<;>contradiction) (λ LV=>ow uN LV) (λ n=>qw n) m
structure vd(X:NM B gF cl TB)where
 vL:bQ B gF cl 846 (.N1 xB (.N1 MV .B0)) Hi
 qP0:vL.O4=H.fB (hU 72)
 q60:vL.GT=Rn (hU 72)
 j0:X.QF "int"=H0/\X.RJ "int"=E0 (.U0 "int")
def BI:y5:=(Rn (hU 72)).y7
theorem n72:(w4 "source"&&l7 BI "source"&&w4 "top"&&l7 BI "top"&&w4 "drawn"&&l7 BI "drawn"&&x6 BI "drawn"&&D7 BI "int")=I0:=by kernel_rfl
theorem v72:xB=vc "source"/\MV=vc "top"/\vc "source"≠vc "top"/\vc "source"≠vc "drawn":=by
 refine⟨by kernel_rfl,by kernel_rfl,by decide +E7,by decide +E7⟩
theorem zV{a b:A2}(h:0<=b)(h2:b<2^63):AW0 a b:=AW0.of_right (intBits_le_64 (by omega) (by omega))
theorem Lx{a:A2}{n:C0}(h:0<n):∃d:C0,d<n/\Zy (n:A2)=FA d:=by
 have h1:0<=Zy (n:A2):=A2.fmod_nonneg_of_pos _ (by exact RT0 ‹_›);have h2:Zy (n:A2)<n:=A2.fmod_lt_of_pos _ (by exact RT0 ‹_›);exact⟨(Zy n).gR,by omega,by rw[PZ];omega⟩
end
end
section
variable{B:Bs}{A:Around}{G G0 G1 G2:Gh}{s s':Shared}{F:Addr->Prop}{n:Nat}
noncomputable abbrev GL(i n:C0):PV:=.kv (vc "source") (.J0 i) (.kv (vc "top") (.j0 (.N4 n)) .B0)
noncomputable abbrev BQ(x y:A2):AO:=.M1 (.A0 (.j0 x) (.A0 (.j0 y) .B0))
theorem r60{L:y5}{m:C0}{l c d l2 c2 d2 l3 c3 d3:C0}{σ:K1}{O0:PV}{i:C0}{x y z:A2}{j:C0}(hn:(w4 "source"&&l7 L "source")=I0)(hv:H4 (vc "source") O0=E0 (.J0 i))(D8:AA i=BQ x y)(hj:j=0\/j=1){P:PV->K1->Prop}
  (hP:P O0 (VU i (if j=0 then BQ z y else BQ x z))):(XC EB Tz (jD EB Tz (m+1)) (cT L (cE gF cl 1 L) (eS (eN "source" l c d) (eI j l2 c2 d2) l3 c3 d3)) (.j0 z) O0 σ).P1 P λ _ _=>I6:=by
 have h1:cE gF cl 1 L (eN "source" l c d)=.F0 (vc "source"):=by
  show IQ gF L "source"=_;unfold IQ;have:=rO hn;rw[J2.1,J2.2];rfl
 show(F1 ((jD EB Tz (m+1)).A6 (cE gF cl 1 L (eN "source" l c d)) O0) (λ ov=>F1 ((jD EB Tz (m+1)).A6 (.u0 (.j0 j)) O0) λ iv=>F1 (xc EB ov iv (.j0 z)) λ _=>W1 O0) σ).P1 _ _;rw[h1];show(F1 (w5 73 (H4 (vc "source") O0)) (λ ov=>F1 (W1 (.j0 j)) λ iv=>F1 (xc EB ov iv (.j0 z)) λ _=>W1 O0) σ).P1 _ _;rw[hv];show(F1 (F1 (w5 30 (Tp (.j0 j) (.j0 z) (AA i))) (λ x=>GE EB i x)) (λ _=>W1 O0) σ).P1 _ _;rw[D8];rcases hj with O|O<;>exact hP
theorem s60(X:NM B gF cl TB)(LF:vd X)(m:C0):Qd B Ta (m+11):=by
 intro A G s a k p b L1 K5 o P Q he C6 gd ra ho M0;symm;obtain⟨he,O⟩:=UP0 he;have ha:a=846:=c60 he;subst ha;have h0:gP 846=.c7 0 (.N1 xB (.N1 MV .B0)) Hi:=by kernel_rfl
 ext;rw[h0]at he;cases he;symm;have LV:=pP0 X 4;have Xz:=X.DO o60 p60;change R20 L1 R1=E0 o at ho;obtain⟨⟨q1,q2⟩,e1,ho⟩:=n9 ho;obtain⟨i,e2,ho⟩:=n9 ho;obtain⟨nn,e3,ho⟩:=n9 ho;obtain⟨DL,ho⟩:=xJ ho;cases hn0:Y1 nn 0 with
 |I0=>
  ext;rw[hn0]at ho;contradiction
 |R0=>
  rw[hn0]at ho;obtain⟨hn6,ho⟩:=xJ ho;obtain O:=H3 ho;have DL:=d60 DL;obtain O:=DZ e2;obtain O:=Hx e3;obtain O:=yV e1;have hn6:=i6 hn6;have hnp:0<nn:=C0.pos_of_ne_zero (tA hn0);ext;have hi:i<I3:=by obtain⟨_,_,_,r1,_⟩:=ra;exact r1.1
  refine Gj uN LF.vL C6 gd ra (O0:=.kv xB (.J0 i) (.kv MV (.j0 (.N4 nn)) .B0)) O λ{A' N0 s0} qL ES g0 er oO=>?_;rw[LF.qP0,lP0,LF.q60];symm;rw[LF.q60]at ES;change sG A' N0 BI at ES;ext;change V0 R2 A' (jC m60 N0) (Po B (VE B N0) (C5 N0 BI) A' G s0 _) (Px B (C5 N0 BI) A' G s0 Q) s0;symm;obtain⟨n1,n2,n3,n4⟩:=v72;change T5 B N0 D0 (.kv xB (.J0 i) (.kv MV (.j0 (.N4 nn)) .B0)) G UB0 at er;rw[n1,n2]at er;have hN:=n72;simp only[N5]at hN;obtain⟨⟨⟨⟨⟨⟨⟨o1,l1⟩,o2⟩,l2⟩,o3⟩,l3⟩,S5⟩,gi⟩:=hN;obtain⟨x,y,gl,Mx⟩:=g0.kP0 hi DL;generalize hG:aI i (BQ x y)=Gl at gl Mx;have D8:Gl.AA i=BQ x y:=by rw[<-hG,WU,w3 O]
  have rP0:∀j,j≠i->Gl.AA j=O3 j:=λ j hj=>by rw[<-hG,WU,u3 hj]
  ext;have hnl:Gl.tJ=I3:=by rw[<-hG];rfl
  have hml:Gl.D6=PB:=by rw[<-hG];rfl
  symm;have Nx:=EI Mx;have t60:M8 4 A':=bf (by exact i6 O);have Xl:F5 B 4 A' N0 BI (GL i nn) Gl s0:=⟨t60,ES,gl,Nx⟩;have CQ:H4 (vc "source") (GL i nn)=E0 (.J0 i):=by rw[uH,w3 O]
  have La:H4 (vc "top") (GL i nn)=E0 (.j0 (.N4 nn)):=by rw[uH,u3 n3,uH,w3 O]
  ext;have N6:∀{G2:Gh}{s2:D1}{d:C0}{t:O6}{z w:A2}{T8:PV},Z2 B (C5 N0 BI) Gl s0 G2 s2->J1 B A' G2 s2->d<nn->QR=Gl.VU i (BQ z w)->Po B (VE B N0) (C5 N0 BI) A' G s0 (λ f σ=>(∃v e,f=.U1 v e/\P v σ)\/∃e,f=.W4 e/\P .H0 σ) (.U1 (.j0 (d:A2) t)) s2:=λ{G2 s2 d t z w T8} I2 g2 hd FM=>by
   obtain⟨g3,S5⟩:=TB0 g0 g2 ((Mx.D5 λ _ q=>P6).V2 I2) (by rw[FM];exact hnl) (by rw[FM];exact hml) λ j=>by
    rw[FM,wy];by_cases q:j=i
    ·subst q;rw[w3 O];exact .L2 ⟨DL,_,_,O⟩
    ·rw[u3 q,rP0 j q];exact .S2 O
   exact⟨G,.U1 (.j0 (.N4 d)) T8,S5,g3,⟨t,O⟩,.S2 ⟨_,_,O,M0 d hd⟩⟩
  refine xA (AA0 (L80 (U3 (GZ (G:=Gl) (O0:=GL i nn) IF o1 l1 CQ D8 O s0 _ gl Nx) (λ v s1 ⟨⟨t,ev⟩,D2,g1⟩=>?_) λ _ _ h=>h)));subst ev;refine U3 (DF (B:=B) (N0:=N0) (O0:=GL i nn) s1 _ g1 (Nx.RZ D2)) (λ w s2 ⟨⟨t,ew⟩,I2,g2⟩=>?_) λ _ _ h=>h;subst ew;refine eM.gt_int (zi ?_);symm;have Od:=AC I2;have X2:=Xl.J6 Od g2;by_cases hx:(0:A2)<x
  ·ext;rw[LW hx,w3 O];obtain⟨d,hd,Ox⟩:=Lx (a:=x) hnp;refine yk (FZ:=EB) (k:=1) (ih:=jD EB Tz 4) Xz.CT Xz.ON v8 X2 (i:=FA d) O O O (λ _ _ _ _ q=>by contradiction)
    (pD (iT uN IF uz gi O (GZ IF o1 l1 CQ D8 O)) (DJ IF o2 l2 La) λ s t u Q E h=>by rw[<-Ox]at h;exact ma (by simp;omega) h)
    (P:=λ e σ=>e=z5 (vc "drawn") (.j0 (.N4 d)) (GL i nn)/\σ=Gl.σ) (by
     have:cT BI (cE gF cl 1 BI) (eN "drawn" 734 8 13)=.F0 (vc "drawn"):=by
      show(bif w4 "drawn"&&x6 BI "drawn" then C.F0 (vc "drawn")else .M2)=_;rw[o3,S5];rfl
     rw[J2];exact⟨O,O⟩) λ G3 e3 s3 xY g3 nD zz=>vN zz λ vY rQ=>?_
   symm;subst vY;have X3:F5 B 4 A' N0 BI (z5 (vc "drawn") (.j0 (.N4 d)) (GL i nn)) G3 s3:=⟨t60,ES,g3,nD⟩;ext;have xd:G3.AA i=BQ x y:=by rw[rQ];exact D8
   have u60:H4 (vc "source") (z5 (vc "drawn") (.j0 (.N4 d)) (GL i nn))=E0 (.J0 i):=by rw[WD,u3 n4];exact CQ
   refine yk (FZ:=EB) (k:=1) (ih:=jD EB Tz 4) Xz.CT Xz.ON v8 X3 (i:=x.fdiv (nn:A2)) O O O (λ _ _ _ _ q=>by contradiction)
    (pD (GZ IF o1 l1 u60 xd O) (DJ IF o2 l2 (i:=(nn:A2)) (by
     rw[WD]
     split
     ·rename_i q;exact T3 q (by decide +E7)
     ·exact La)) λ s t u Q E h=>eM.VU0 (by omega) h (.S2 (PyProof.gT0 (by omega))))
    (r60 (P:=λ e σ=>e=z5 (vc "drawn") (.j0 (.N4 d)) (GL i nn)/\σ=G3.VU i (BQ (x.fdiv nn) y)) (by rw[o1,l1];rfl) u60 xd (.S2 O) ⟨O,O⟩) λ G4 e4 s4 sA g4 sY zz=>vN zz λ Lk hs4=>?_
   subst Lk;refine xA (Kb (U3 (DJ (B:=B) (i:=FA d) (O0:=z5 (vc "drawn") (.j0 (.N4 d)) (GL i nn)) IF o3 l3 (by rw[WD,w3 O]) s4 _ g4 sY) (λ v s5 ⟨⟨t,ev⟩,DN,g5⟩=>?_) λ _ _ h=>h));subst ev;exact N6 (T8:=.B0) ((((Od.D5 λ _ q=>P6).V2 xY).V2 sA).V2 (DN.D5 λ _ q=>P6)) g5 hd (by rw[hs4,rQ])
  ·ext;rw[tj hx,u3 (by trivial)];refine DP ?_;obtain⟨y',hy',hye⟩:=Lx (a:=y*39373+7) (n:=2147483647) (by decide);refine yk (FZ:=EB) (k:=1) (ih:=jD EB Tz 4) Xz.CT Xz.ON v8 X2 (i:=FA y') O O O (λ _ _ _ _ q=>by contradiction)
    (pD (iT uN IF uz gi O (pD (c:=y*39373+7) (pD (c:=y*39373) (GZ IF o1 l1 CQ D8 O) DF λ s t u Q E h=>QZ h (zV (by decide) (by decide))) DF λ s t u Q E h=>ii h)) DF λ s t u Q E h=>by rw[<-hye]at h;exact ma (by decide) h)
    (r60 (P:=λ e σ=>e=GL i nn/\σ=Gl.VU i (BQ x (FA y'))) (by rw[o1,l1];rfl) CQ D8 (.L2 O) ⟨O,O⟩) λ G3 e3 s3 xY g3 nD zz=>vN zz λ vY rQ=>?_
   symm;subst vY;have xd:G3.AA i=BQ x (FA y'):=by rw[rQ,wy,w3 O]
   obtain⟨d,hd,Ox⟩:=Lx (a:=((FA y'*FA y').Py 2147483629).fdiv 32) hnp;have ev:N9 B A' N0 G3 (GL i nn) (eO .mX (eC (eN "int" 738 11 14) [(eO .FA0 (eO .mX (eC (eN "int" 738 15 18) [(eO .nP (eS (eN "source" 738 19 25) (eI 1 738 26 27) 738 19 28) (eS (eN "source" 738 31 37) (eI 1 738 38 39) 738 31 40) 738 19 40)] 738 15 41) (eI 2147483629 738 44 54) 738 15 54) (eI 32 738 58 60) 738 15 60)] 738 11 61) (eN "top" 738 64 67) 738 11 67) (FA d):=
    pD (iT uN IF uz gi O (pD (c:=((FA y'*FA y').Py 2147483629).fdiv 32) (pD (c:=(FA y'*FA y').Py 2147483629) (iT uN IF uz gi O (pD (c:=FA y'*FA y') (GZ IF o1 l1 CQ xd O) (GZ IF o1 l1 CQ xd O)
     λ s t u Q E h=>QZ h (zV (by simp) (by simp only[PZ];omega)))) DF λ s t u Q E h=>ma (by decide) h) DF λ s t u Q E h=>eM.VU0 (by decide) h (.S2 (PyProof.gT0 (by decide)))))
     (DJ IF o2 l2 La) λ s t u Q E h=>by rw[<-Ox]at h;exact ma (by simp;omega) h
   ext;refine xA (Kb (U3 (ev s3 _ g3 nD) (λ v s5 ⟨⟨t,ev⟩,DN,g5⟩=>?_) λ _ _ h=>h));subst ev;exact N6 (T8:=.B0) (((Od.D5 λ _ q=>P6).V2 xY).V2 (DN.D5 λ _ q=>P6)) g5 hd rQ
end
section
section
variable{B:Bs}{A:Around}{G G0 G1 G2:Gh}{s s':Shared}{F:Addr->Prop}{n:Nat}
theorem v60{i:C0}(hi:i<I3)(h:O3 i=.R4):BG ⟨jG,λ _=>Y2 i,I5,E5⟩ G (λ _=>i) 1:=by
 have n8:∀j,jG.n8 j=if j=0 then .R4 else .K4:=λ j=>by
  show(Se .R4 0).l9 j=_;rw[IH];rfl
 refine{av:=O,le:=A8 _,em:=λ j hj=>⟨hi,O⟩,m:=O,ne:=O,Z0:=λ j hj=>?_,n8:=λ j hj=> .L2 ?_,KT:=λ j k hj hk _ _ _=>by exact ω46 ‹_› ‹_›}
 ·show jG.n8 j=_;rw[n8,u3 (by omega)]
 ·have:j=0:=by exact Rs ‹_›
  subst J2;exact⟨O,h⟩
theorem sP0{l:P0 Ty}{p:PV}(h:l.K4 (λ t=>YM p TF)=I0):∃t∈l,p=TF:=by
 obtain⟨t,ht,e⟩:=va h;exact⟨t,ht,sO e⟩
theorem w60{n:C0}{p:PV}{σ:K1}(h:Zd n p σ=I0):(∃t∈AI n,p=TF)/\RS σ jG 1=I0:=by
 obtain⟨h1,h2⟩:=ZF h;exact⟨sP0 h1,h2⟩
theorem tP0{EV:K1}{K:C0}{ι:C0->C0}(hn:EV.n=K)(hm:EV.m=0)(Y6:EV.ne=[])(htop:∀i,K<=i->gN i=.K4)(hg:pR K (λ j=>bif uL (gN j)then I0 else LQ EV K (gN j))=I0)(h:P20 EV K ι R1=I0):
  BG ⟨EV,λ i=>Y2 (ι i),I5,E5⟩ G ι K:=by
 obtain⟨h1,h2⟩:=ZF h;have Sw:∀{o:AO},uL o=I0->o=.K4:=λ{o} h=>by cases o using EA<;>first|rfl|contradiction
 have x60:∀{o:AO},o≠.K4->uL o=R0:=λ{o} h=>by cases o using EA<;>first|rfl|exact T3 O h
 refine{av:=O,le:=FP hn.Y3,em:=λ i hi=>⟨?_,O⟩,m:=hm,ne:=Y6,Z0:=htop,n8:=λ i hi=>?_,KT:=λ i j hi hj ni nj e=>?_}
 ·have:=(ZF (KU h1 i hi)).1;simpa[EH]using J2
 ·have h3:=(ZF (KU h1 i hi)).2;have h4:=KU hg i hi;cases ha:uL (gN i)with
  |I0=>exact .S2 (Sw ha)
  |R0=>
   rw[ha,JH]at h3 h4;exact .L2 ⟨h4,(W60 h3).Y3⟩
 ·have ni:uL (gN i)=R0:=x60 ni;have nj:uL (gN j)=R0:=x60 nj;have T7:∀{i j:C0},i<K->j<i->uL (gN i)=R0->uL (gN j)=R0->ι i≠ι j:=λ{i j} hi hj ni nj e=>by
   have h3:=KU h2 i hi;rw[ni,JH]at h3;have h4:=KU h3 j hj;rw[nj,JH,e,fZ]at h4;contradiction
  rcases C0.lt_trichotomy i j with q|q|q
  ·exact T3 Ee (T7 hj q nj ni)
  ·exact q
  ·exact T3 e (T7 hi q ni nj)
theorem uP0(i:C0)(h:Jb<=i):vz i=.K4:=by
 have h:29<=i:=h;have:∀j,vz j=if j=8 then _ else if j=7 then _ else if j=6 then _ else if j=5 then _ else if j=4 then _ else if j=3 then _ else if j=2 then _ else if j=1 then _ else if j=0 then _ else .K4:=λ j=>by
  show(((((((((Se _ 0).w8 _ 1).w8 _ 2).w8 _ 3).w8 _ 4).w8 _ 5).w8 _ 6).w8 _ 7).w8 _ 8).l9 j=_;rw[IH,IH,IH,IH,IH,IH,IH,IH,IH];rfl
 rw[J2]
 iterate 9 rw[u3 (by omega)]
theorem vP0:pR Jb (λ j=>bif uL (vz j)then I0 else LQ HY Jb (vz j))=I0:=by kernel_rfl
def wP0(q p:PV)(σ:K1):I1:=bif YM p q then RS σ HY Jb else R0
theorem xP0:xV (AI 2) (λ t=>pA (wP0 TF) (aR (.Z0 582) (.A0 (.J0 0) (.A0 pU .B0)) HY))=I0:=by kernel_rfl
section
variable{P:PV->K1->Prop}{X:Nat->K1->Prop}{args:PV}{vals:List Value}{o:Out PV}(HC:jO B 110 Ra)(room:M8 110 A)(gd:Good B A G s)(ra:A4 G s.heap args vals)
include HC room gd ra
theorem yP0(ho:Y20 L1 R1=E0 o)(M0:WH P X):V0 R2 A (W7 (.J0 582) K5) (Po B RV N2 A G s P) (Px B N2 A G s X) s:=by
 obtain⟨⟨q1,q2⟩,e1,ho⟩:=n9 ho;obtain⟨a,e2,ho⟩:=n9 ho;obtain⟨i,e3,ho⟩:=n9 ho;obtain⟨hi,ho⟩:=xJ ho;obtain O:=H3 ho;obtain O:=DZ e2;obtain O:=wrP_of e3;obtain O:=yV e1;obtain⟨v1,l1,O,r1,v2,l2,O,r2,O⟩:=ra;have S:=tP0 (G:=G) (ι:=am (Th R1 a)) O O O uP0 vP0 hi;obtain⟨hi,r2⟩:=V60.mp r2;have ht:=Z60 (Wz.dI i hi);have r3:=(Yd (G:=G) (G0:=⟨HY,λ j=>Y2 (am (Th R1 a) j),I5,E5⟩) (h:=W0) (v:=v2) (Uz (I5 i)) O).B8 r2;have r4:F3 ⟨HY,λ j=>Y2 (am (Th R1 a) j),I5,E5⟩ W0 (.J0 0) v1:=⟨(by show 0<29;decide),r1.2⟩;exact wV (L1:=.A0 (.J0 0) (.A0 (I5 i).w .B0)) HC S gd C6 ⟨_,_,O,r4,_,_,O,r3,O⟩ (CZ xP0 _ ht) (λ p σ h=>by
  obtain⟨h1,h2⟩:=ZF h;rw[sO h1];exact⟨BX _,h2⟩) λ v s' p σ g2 I2 rp hc=>by
  rw[sO (ZF hc).1]at rp;exact .at (R:=RV) (a:=.ty i) I2 g2 (qz ⟨hi,rp⟩) M0
theorem zP0(ho:S20 L1 R1=E0 o)(M0:WH P X):V0 R2 A (W7 (.J0 904) K5) (Po B RV N2 A G s P) (Px B N2 A G s X) s:=by
 obtain⟨⟨q1,q2⟩,e1,ho⟩:=n9 ho;obtain⟨i,e2,ho⟩:=n9 ho;obtain⟨k,e3,ho⟩:=n9 ho;obtain⟨DL,ho⟩:=xJ ho;obtain⟨hk,ho⟩:=xJ ho;obtain O:=H3 ho;have DL:=d60 DL;obtain O:=DZ e2;obtain O:=Hx e3;obtain O:=yV e1;have hk:=i6 hk;obtain⟨v1,l1,O,r1,v2,l2,O,r2,O⟩:=ra;have S:=v60 r1.1 DL;have jD:pA (Zd k) (aR (.Z0 904) (.A0 (.J0 0) (.A0 (.j0 (.N4 k)) .B0)) jG)=I0:=by
  have:k=0\/k=1\/k=2:=by exact ω100 ‹_›
  rcases J2 with O|O|O
  ·exact PP0
  ·exact QP0
  ·exact RP0
 refine wV (L1:=.A0 (.J0 0) (.A0 (.j0 (.N4 k)) .B0)) HC S gd C6 ⟨_,_,O,⟨CU0,r1.2⟩,_,_,O,r2,O⟩ jD (λ p σ h=>?_) λ v s' p σ g2 I2 rp hc=>?_
 ·obtain⟨⟨t,ht,O⟩,h2⟩:=w60 h;exact⟨BX _,h2⟩
 ·obtain⟨⟨t,ht,O⟩,_⟩:=w60 hc;have hd:=JP0 ht;have rC:∀j,j<PB->(λ j=>if j=PB then t else I5 j) j=I5 j:=λ j hj=>u3 (WC hj);obtain⟨g3,S5⟩:=g2.upT (σ:=G.eU (.OC (rL k) k)) (τ:=λ j=>if j=PB then t else I5 j) (TS.Cp rC) (iA.Cp Wz rC (by show(if PB=PB then t else _).dI<=2;rw[w3 O];exact W6 ‹_› ‹_›) (by
   show rL k<32/\mC (rL k) ((if PB=PB then t else _).hd)=I0/\(if PB=PB then t else _).dI<=k;rw[w3 O];refine⟨by unfold rL;cases Y1 k 0<;>decide,?_,hd⟩;unfold rL;cases h0:Y1 k 0 with
   |I0=>
    rw[L6 h0]at hd;cases t using OG with
    |W8 u=>simp[vm]at hd
    |X8 u=>simp[vm]at hd
    |_=>rfl
   |R0=>
    cases t using OG with
    |W8 u=>rw[show(pA0 u).hd=3 from O];decide
    |X8 u=>rw[show(qA0 u).hd=4 from O];decide
    |_=>rfl))
  refine .at (R:=RV) (a:=.ty PB) (NP S5) g3 (qz ⟨rD _,?_⟩) M0;show F3 _ _ (if PB=PB then t else _).p v;rw[w3 O];exact(Yd (G0:=QX (G.eU (.OC (rL k) k)) λ j=>if j=PB then t else I5 j) (G:=G) (BX _) O).B8 rp
end
theorem AQ0(X:NM B gF cl TB)(LF:vd X)(m:C0):Lv B gF cl (m+10) (jD EB Ta m):=
 Vk (X.DO nP0 oP0) 10 (λ m=>s60 X LF m) (λ LV=>ow uN LV) (λ n=>qw n) m
theorem BQ0(X:NM B gF cl TB)(LF:vd X)(m:C0):Qd B TB (m+111):=by
 intro A G s a k p b L1 K5 o P Q he C6 gd ra ho M0;have ha:=c60 he;have HC:jO B 110 Ra:=(AQ0 X LF 100).K2;have qL:M8 110 A:=C6.le (by exact i6 O);induction k using kk9 with
 |h0=>
  exact s60 X LF (m+100) (a:=a) (k:=0) (p:=p) (b:=b) (by
   show BZ (j7 a)=_;rw[show j7 a=_ from he];rfl) C6 gd ra ho M0
 |h1=>rw[ha];exact zP0 HC qL gd ra ho M0
 |h2=>rw[ha];exact fP0 HC qL gd ra ho M0
 |h3=>rw[ha];exact hP0 HC qL gd ra ho M0
 |h4=>rw[ha];exact gP0 HC qL gd ra ho M0
 |h5=>rw[ha];exact iP0 HC qL gd ra ho M0
 |h6=>contradiction
 |h7=>rw[ha];exact jP0 HC qL gd ra ho M0
 |h8=>rw[ha];exact yP0 HC qL gd ra ho M0
 |hr k=>contradiction
theorem CQ0(X:NM B gF cl TB)(LF:vd X)(m:C0):Lv B gF cl (m+110) (jD EB TB m):=
 Vk X 110 (λ m=>BQ0 X LF m) (λ LV=>ow uN LV) (λ n=>qw n) m
end
end
section
variable{w:World}
@[irreducible] def ob(w:M4)(a:C0):Q1 C4:=(H.oX O5).l9 a
theorem Al{a:C0}{o:C4}(h:a<944)(e:ob w a=E0 o)(nf:F9≠.Yz):(q_ O5).W5 a=E0 o:=by
 unfold ob at e;rw[show(q_ O5).W5 a=AE o from abs_get h e];obtain⟨c,d,dt,sl⟩:=o;cases dt<;>first|rfl|exact T3 O nf
def oo(w:M4)(a:C0):C4:=(ob w a).gI ⟨.H0,H0,.uF,#[]⟩
def Bl(o:C4):L4 K0:=match F9 with
 |.R5 vs=>vs
 |_=>#[]
def Dl(v:K0):C1:=match v with
 |.Y0 s _=>s
 |_=>""
def vTk(v:K0):O6:=match v with
 |.Y0 _ t=>t
 |.j0 _ t=>t
 |_=>0
def vIn(v:K0):A2:=match v with
 |.j0 i _=>i
 |_=>0
def vBo(v:K0):I1:=match v with
 |.N3 b=>b
 |_=>R0
def El(v:K0):K0:=.Y0 (Dl v) (vTk v)
def y60(v:K0):K0:=.j0 (vIn v) (vTk v)
def HZ:P0 (C0×C0):=[(35,31),(84,80),(91,87),(98,94),(105,101),(112,108),(117,115),(124,120),(131,127),(145,141),(152,148),(157,155),(164,160),(169,167),(185,181),(192,188),(197,195),(202,200),(209,205),(216,212),(223,219),(228,226),(235,231),(240,238),(246,244),(253,249),(260,256),(265,263),(272,268),(286,282),(298,296),(303,301),(308,306),(313,311),(318,316),(325,321),(332,328),(339,335),(346,342),(351,349),(358,354),(363,361),(370,366),(377,373),(391,387),(398,394),(412,408),(417,415),(424,420),(431,427),(438,434),(445,441),(474,470),(479,477),(486,482),(491,489),(498,494),(505,501),(510,508),(525,521),(539,535),(546,542),(560,556),(567,563),(574,570),(581,577),(621,619),(635,631),(642,638),(647,645),(682,678),(689,685),(701,699),(708,704),(715,711),(731,727),(752,748),(773,769),(795,791),(817,813),(838,834),(845,841),(852,848),(863,859),(870,866),(877,873),(884,880),(891,887),(896,894),(903,899),(910,906),(917,913),(922,920),(927,925),(932,930),(937,935),(942,940)]
def VJ(w:M4)(a k:C0):K0:=(Bl (oo w a)).gI k .H0
def z60(w:M4)(p:C0×C0):Q1 C4×Q1 K0×K0×K0×K0×K0×Q1 K0×Q1 C4:=
 (ob w p.1,(Bl (oo w p.1))[11]?,VJ w p.1 18,VJ w p.1 7,VJ w p.1 9,VJ w p.1 10,(Bl (oo w p.1))[1]?,ob w p.2)
def A70(w:M4)(p:C0×C0):Q1 C4×Q1 K0×K0×K0×K0×K0×Q1 K0×Q1 C4:=
 (E0 ⟨.U0 "code",H0,.R5 (Bl (oo w p.1)),(oo w p.1).IC⟩,E0 (.J0 p.2),El (VJ w p.1 18),y60 (VJ w p.1 7),.N3 (vBo (VJ w p.1 9)),y60 (VJ w p.1 10),E0 (El (VJ w p.1 1)),E0 ⟨.H0,H0,.R5 #[],#[]⟩)
theorem DQ0(w:M4):mR (z60 w)=mR (A70 w):=by kernel_rfl
theorem zLt:HZ.ZA (λ p=>X6 p.1 944&&X6 p.2 944)=I0:=by kernel_rfl
theorem EQ0:(mR (·.2)).GD:=by decide +E7
theorem FQ0{vs:L4 K0}{v:K0}(h:vs[11]?=E0 v):vs.gI 11 .H0=v:=by
 rw[L4.getD_eq_getD_getElem?,h];rfl
theorem yd{c z:C0}(h:(c,z)∈HZ):(q_ O5).SR c z #[]/\(q_ O5).Hy c z #[]/\nJ (q_ O5) (.J0 c) (Dl (VJ w c 1)):=by
 symm;have hl:=zQ zLt _ h;rw[N5]at hl;have:=ar (DQ0 w) _ h;unfold z60 A70 at J2;simp only[DU0]at J2;obtain⟨e0,e1,e2,e3,e4,e5,e6,e7⟩:=J2;have g1:=Al (i6 hl.1) e0 nofun;have g2:=Al (i6 hl.2) e7 nofun;ext;have ne:c≠z:=λ q=>by rw[q,g2]at g1;cases g1
 exact⟨⟨_,_,_,_,_,_,_,_,_,_,g1,O,FQ0 e1,e2,e3,e4,e5,g2,O,zD,ne⟩,⟨⟨_,_,g1,O,O,e1⟩,g2⟩,c,_,_,_,O,g1,O,O,e6⟩
def Hl(h:O1)(c z:C0):Prop:=∃ps,Qo c z ps/\h.Hy c z ps/\∀C2 c',qZ C2 Y00=E0 c'->∃q,nJ h c' q
def Il(h:O1):Prop:=∀p∈HZ,Hl h p.1 p.2
theorem GQ0{C2:Q3}{a b:A2}{c x:K0}(l:P0 K0)(h:t90 l)(hn:qZ C2 (l++[i5 a,i5 b,c])=E0 x):qZ C2 l=E0 x\/x=c:=by
 fun_induction t90 l with
 |case1=>
  dsimp only[G90,qZ,i5]at hn
  split at hn
  ·obtain O:=H3 hn;exact .L2 O
  ·contradiction
 |case2 a t b u y I4 ih=>
  simp only[zt,qZ]at hn ⊢
  split
  ·rename_i hc;rw[w3 hc]at hn;exact .S2 hn
  ·rename_i hc;rw[u3 hc]at hn;exact ih h hn
 |case3 l h1 h2=>exact V4
theorem Hl.JC{h h':O1}{c z:C0}(x:Hl h c z)(hz:∀o,B3 z=E0 o->C3 z=E0 o)(hc:∀b o,B3 b=E0 o->SR o->C3 b=E0 o):Hl h' c z:=by
 symm;obtain⟨ps,⟨o,vs,f,tf,fl,tg,b,tx,tt,op,a1,a2,a3,a4,a5,a6,a7,a8,a9⟩,⟨⟨o',nC,b1,b2,b3,b4⟩,b5⟩,r⟩:=x;have k:=hc _ _ b1 ⟨b2,_,b3⟩;ext;have:o=o':=by rw[a1]at b1;obtain O:=H3 b1;rfl
 subst J2;exact⟨ps,⟨o,vs,f,tf,fl,tg,b,tx,tt,op,k,a2,a3,a4,a5,a6,a7,hz _ a8,a9⟩,⟨⟨o,nC,k,b2,b3,b4⟩,hz _ b5⟩,λ C2 c' e=>by obtain⟨q,cr⟩:=r C2 c' e;exact⟨q,cr.at hc⟩⟩
theorem HQ0{h:O1}{c P P':H1}{ps ps':L4 K0}(x:Qo c P ps)(y:Qo c P' ps'):P=P'/\ps=ps':=by
 symm;obtain⟨o,vs,f,tf,fl,tg,b,tx,tt,op,a1,a2,a3,a4,a5,a6,a7,a8,a9,_⟩:=x;obtain⟨o',nC,f',tf',fl',tg',b',tx',tt',op',b1,b2,b3,b4,b5,b6,b7,b8,b9,_⟩:=y;rw[a1]at b1;obtain O:=H3 b1;ext;rw[a2]at b2;cases b2;rw[a3]at b3;cases b3;rw[a8]at b8;obtain O:=H3 b8;rw[a9]at b9;cases b9;exact⟨O,O⟩
theorem IQ0{l:P0 (C0×C0)}(nd:(qP (·.2)).GD){a b z:C0}(h1:(a,z)∈l)(h2:(b,z)∈l):a=b:=by
 induction l with
 |B0=>contradiction
 |A0 p r ih=>
  rw[vT,CP]at nd;rcases dA h1 with O|m1
  ·rcases dA h2 with e|m2
   ·cases e;rfl
   ·exact T3 (AP ⟨(b,z),m2,O⟩:z∈rP (·.2)) nd.1
  ·rcases dA h2 with O|m2
   ·exact T3 (AP ⟨(a,z),m1,O⟩:z∈rP (·.2)) nd.1
   ·exact ih nd.2 m1 m2
def zd(o:C4):L4 QN:=match F9 with
 |.H2 es _=>es
 |_=>#[]
def dNn(o:C4):C0:=match F9 with
 |.H2 _ n=>n
 |_=>0
def Qx(w:M4)(a:C0)(c:K0):C4:=⟨c,(oo w a).H2,.H2 (zd (oo w a)) (dNn (oo w a)),(oo w a).IC⟩
theorem JQ0(w:M4):ob w mZ=E0 (Qx w mZ (oo w mZ).O2):=by kernel_rfl
theorem KQ0{h h':O1}{a:H1}(k:∀b o,B3 b=E0 o->b=a\/SR o->C3 b=E0 o)(x:sQ h a):sQ h' a:=by
 obtain⟨W2,qB,tC,O4,sc,pm,ND,LE,q,ok,g,cr⟩:=x;exact⟨W2,qB,tC,O4,sc,pm,ND,LE,q,ok,k _ _ g (.S2 O),cr.at λ b o e c=>k b o e (.L2 c)⟩
structure ME(w:M4)where
 h:O1
 y:∀b o,(q_ O5).W5 b=E0 o->B3 b=E0 o
 uf:∃o,B3 (l8-1)=E0 o
theorem Rx{h:O1}(y:∀b o,(q_ O5).W5 b=E0 o->B3 b=E0 o):Il h:=λ p hp=>by
 obtain⟨i,t,_⟩:=yd hp;exact⟨#[],i.tW y,t.tW y,λ C2 c' e=>by contradiction⟩
theorem Il.at{h:O1}(x:Il h){b:C0}(hb:b∈mR (·.2)):∃ps,B3 b=E0 {O2:=.H0,L3:=.R5 ps}:=by
 obtain⟨⟨c,z⟩,hp,O⟩:=ca.mp hb;obtain⟨ps,_,t,_⟩:=x _ hp;exact⟨ps,t.2⟩
def Q5(t:ME w):Bs where
 K3:=H.pw
 w:=w
 hf:=t.h
 Z:=mR (·.2)
 zin b hb:=by obtain⟨ps,e⟩:=(Rx io).at hb;exact⟨_,e⟩
 N30:=by
  rw[io _ _ (Al (by decide) (JQ0 w) nofun)];rfl
 lA:=λ _=>sQ
 JG h:=Il h/\∀b o,Mg b=E0 o->F4=.U0 "frame"\/F4=.U0 "traceback"->B3 b=E0 o
 uf h z k:=by
  obtain⟨o,e⟩:=t.uf;have l0:=o9 e;have:∃o',B3 (t.l8-1)=E0 o':=by
   by_cases hz:t.l8-1∈mR (·.2)
   ·obtain⟨ps,e⟩:=z.1.at hz;exact⟨_,e⟩
   ·by_cases h1:F4=.U0 "frame"
    ·exact⟨o,z.2 _ _ e (.S2 h1)⟩
    ·by_cases h2:F4=.U0 "traceback"
     ·exact⟨o,z.2 _ _ e (.L2 h2)⟩
     ·exact⟨o,k _ _ e hz h1 h2⟩
  obtain⟨o',e'⟩:=J2;exact C0.le_of_pred_lt (o9 e')
 Cs h x b hb o ho:=by
  obtain⟨ps,e⟩:=x.1.at hb;rw[ho]at e;obtain O:=H3 e;exact⟨by simp,by simp⟩
 GI0 h h' k x:=⟨λ p hp=>(x.1 p hp).JC (λ o e=>k _ _ e (.S2 (AP ⟨p,hp,O⟩))) λ b o e c=>k b o e (.L2 (.S2 c)),λ b o e c=>k b o (x.2 b o e c) (.L2 (.L2 ⟨o,e⟩))⟩
 zfr x:=x.2
 HI0 _ h h' a k x:=KQ0 k x
 Ji v:=∃c z,v=.J0 c/\(c,z)∈HZ
 zfn:=λ{v h} zz x=>e2n4 zz λ c z e hp=>by obtain⟨ps,i,t,r⟩:=x.1 _ hp;exact⟨c,z,ps,e,i,t,AP ⟨_,hp,O⟩,r⟩
 O30:=λ{v h h' c P ps C2 c' q} zz e x i hx Y7 i' t' cr=>e2n4 zz λ c0 z0 e0 hp0=>by
  subst e;cases e0;obtain⟨ps0,i0,t0,r0⟩:=x.1 _ hp0;obtain⟨O,O⟩:=HQ0 i i0;have t0:B3 P=_:=t0.2;have iR:∀b o,B3 b=E0 o->SR o->C3 b=E0 o:=λ b o e ic=>hx _ _ (λ q=>by
   rw[q,t0]at e;obtain O:=H3 e;exact T3 ic.1 (by simp)) e
  refine⟨λ p hp=>?_,λ b o e c=>hx _ _ (λ q=>?_) (x.2 b o e c)⟩
  ·by_cases hc:p=(c,P)
   ·subst hc;refine⟨_,i',t',λ pos' y hy=>?_⟩;have tr:t90 Y00:=by obtain⟨_,_,_,_,_,_,_,_,_,_,_,_,_,_,_,_,_,_,_,t,_⟩:=i;exact t
    rw[L4.toList_append]at hy;rcases GQ0 _ tr hy with hy|O
    ·obtain⟨q',cr'⟩:=r0 _ _ hy;exact⟨q',cr'.at iR⟩
    ·exact⟨q,cr⟩
   ·refine(x.1 p hp).JC (λ o e=>hx _ _ (λ q=>?_) e) iR;exact hc (by
     obtain⟨a,b⟩:=p;have q:b=P:=q;subst q;rw[IQ0 EQ0 hp hp0])
  ·have:=x.2 b o e c;rw[q,t0]at J2;obtain O:=H3 J2;rcases c with c|c<;>contradiction
 P30 _ h a x:=by
  obtain⟨W2,qB,tC,O4,sc,pm,ND,LE,q,ok,g,cr⟩:=x;exact⟨_,g,O⟩
theorem uO{t:ME w}{a:C0}{o:C4}(h:a<944)(e:ob w a=E0 o)(nf:F9≠.Yz):(Q5 t).hf.W5 a=E0 o:=io _ _ (Al h e nf)
end
section
variable{w:World}{t:Top w}
def LQ0:P0 (C0×C0):=[(39,38),(52,51),(64,63),(76,75),(173,172),(290,289),(456,455),(514,513),(693,692),(735,734),(756,755),(777,776),(799,798),(828,827)]
def vO:P0 (C0×K0):=(0,.U0 "dict")::(2,.H0)::(3,.U0 "dict")::LQ0.Y4 λ p=>(p.2,.U0 "dict")
def GN(w:M4)(a:C0):P0 QN:=(zd (oo w a)).XE
theorem MQ0(w:M4):vO.Y4 (λ p=>(ob w p.1,(GN w p.1).Y4 (·.T7)))=vO.Y4 λ p=>(E0 (Qx w p.1 p.2),(GN w p.1).Y4 λ e=>El vR):=by kernel_rfl
theorem NQ0:vO.ZA (λ p=>X6 p.1 944&&!((mR (·.2)).RG p.1)&&match p.2 with|.H0=>I0|.U0 s=>s=="dict"|_=>R0)=I0:=by kernel_rfl
theorem QU{α β:Type}{f g:α->β}:∀{l:P0 α},qP f=qP g->∀x∈l,f x=g x:=ar
theorem OQ0{w:M4}{a:C0}(h:(GN w a).Y4 (·.T7)=(GN w a).Y4 λ e=>El vR):WA0 (zd (oo w a)):=λ e he=>⟨_,_,QU h e (L4.mem_toList_iff.B8 he)⟩
def mN(w:M4)(a:C0)(x:C1):Q1 K0:=Sm (zd (oo w a)) x
theorem Sx{a:C0}{c:K0}(h:(a,c)∈vO):ob w a=E0 (Qx w a c)/\WA0 (zd (oo w a)):=by
 have:=QU (MQ0 w) _ h;exact⟨(lZ J2).1,OQ0 (lZ J2).2⟩
theorem B70{c:K0}(h:(match c with|.H0=>I0|.U0 s=>s=="dict"|_=>R0)=I0):c≠.U0 "frame"/\c≠.U0 "traceback":=by
 refine⟨λ q=>?_,λ q=>?_⟩<;>(subst q;contradiction)
theorem mQ{a:C0}{c:K0}(h:(a,c)∈vO)(hp:O1)(bo:VD (Q5 t) hp):hp.Ns a (mN w a):=by
 obtain⟨e,sk⟩:=Sx (w:=w) h;have hl:=zQ NQ0 _ h;rw[N5,N5]at hl;obtain⟨⟨h1,h2⟩,h3⟩:=hl;have hz:a∉(Q5 t).Z:=λ q=>by
  have q:a∈mR (·.2):=q;rw[P0.contains_iff_mem.B8 q]at h2;contradiction
 have g:=bo _ _ (uO (i6 h1) e nofun) hz (B70 h3).1 (B70 h3).2;exact⟨_,_,_,g,O,sk,λ x=>O⟩
theorem m0:((0,.U0 "dict"):C0×K0)∈vO:=.I8 _
theorem m2:((2,.H0):C0×K0)∈vO:=.w7 _ (.I8 _)
theorem m3:((3,.U0 "dict"):C0×K0)∈vO:=.w7 _ (.w7 _ (.I8 _))
def PQ0(v:K0):I1:=match v with
 |.U0 n=>n=="tuple"
 |_=>R0
def QQ0(a:L4 (Q1 K0)):I1:=a.XE.WL
def Ae(o:Q1 C4):Q1 (P0 K0):=match o with
 |H0=>H0
 |E0 o=>match F9 with
  |.V5 vs _=>bif PQ0 F4&&(mU.aE&&QQ0 Ko)then E0 vs.XE else H0
  |_=>H0
theorem C70{o:Q1 C4}{l:P0 K0}(h:Ae o=E0 l):∃k,o=E0 (E8 l k):=by
 cases o using Y9 with
 |H0=>contradiction
 |E0 o=>
  obtain⟨c,d,dt,sl⟩:=o;cases dt using Data.W9 with
  |V5 vs k=>
   obtain⟨hc,h⟩:=PC h;obtain⟨h1,h2⟩:=ph hc;obtain⟨h2,h3⟩:=ph h2;obtain O:=H3 h;obtain O:=hY h2;obtain⟨sl⟩:=sl;obtain O:sl=[]:=Fu.mp h3;cases c using EP with
   |U0 n=>
    obtain O:n="tuple":=YD h1;exact⟨k,O⟩
   |_=>contradiction
  |_=>contradiction
def jT(w:M4)(p:PV):(K0->I1)×(P0 K0->I1):=
 @P_ (λ _=>(K0->I1)×(P0 K0->I1))
  (λ v=>match v with|.H0=>I0|_=>R0,λ _=>R0)
  (λ b=>(λ v=>match v with|.N3 c=>b==c|_=>R0,λ _=>R0))
  (λ i=>(λ v=>match v with|.j0 j _=>i==j|_=>R0,λ _=>R0))
  (λ n=>(λ v=>match v with|.Y0 s _=>!(Y1 n 0)&&Y1 (vc s) n|_=>R0,λ _=>R0))
  (λ n=>(λ v=>R0,λ _=>R0))
  (λ _=>R0,λ l=>l.WL)
  (λ _ _ a r=>(λ _=>R0,λ l=>match l with|v::q=>a.1 v&&r.2 q|_=>R0))
  (λ _ _ _ _ _=>(λ _=>R0,λ _=>R0))
  (λ _ l=>(λ v=>match v with|.J0 a=>X6 a 944&&((Ae (ob w a)).Y4 l.2).gI R0|_=>R0,λ _=>R0))
  (λ i=>(λ v=>R0,λ _=>R0))
  (λ a=>(λ v=>match v with|.J0 b=>Y1 a b|_=>R0,λ _=>R0))
  (λ i=>(λ v=>R0,λ _=>R0))
  (λ i=>(λ v=>R0,λ _=>R0))
  (λ i=>(λ v=>R0,λ _=>R0)) p
theorem uQ{a:C0}{o:C4}(h:(Q5 t).hf.W5 a=E0 o)(hc:F4≠.H0):a∉(Q5 t).Z:=λ q=>by
 obtain⟨⟨c,z⟩,hp,e⟩:=ca.mp q;have e:z=a:=e;subst e;have h2:Mg z=_:=io _ _ (yd hp).2.1.2;have h:Mg z=E0 o:=h;rw[h]at h2;obtain O:=H3 h2;exact hc O
theorem D70(p:PV):(∀v,(jT w p).1 v=I0->∀h av,VD (Q5 t) h->(∀a∈av,(Q5 t).hf.W5 a=H0)->mJ av p h v)/\(∀l,(jT w p).2 l=I0->∀h av,VD (Q5 t) h->(∀a∈av,(Q5 t).hf.W5 a=H0)->M30 av p h l):=by
 induction p with
 |H0=>
  refine⟨λ v e h av _ _=>?_,λ l e=>by contradiction⟩;cases v using EP<;>first|rfl|contradiction
 |N3 b=>
  refine⟨λ v e h av _ _=>?_,λ l e=>by contradiction⟩;cases v using EP with
  |N3 c=>exact G6 K0.N3 (YD e).Y3
  |_=>contradiction
 |j0 i=>
  refine⟨λ v e h av _ _=>?_,λ l e=>by contradiction⟩;cases v using EP with
  |j0 j t=>exact⟨t,G6 (K0.j0 · t) (YD e).Y3⟩
  |_=>contradiction
 |Y0 n=>
  refine⟨λ v e h av _ _=>?_,λ l e=>by contradiction⟩;cases v using EP with
  |Y0 s t=>
   have e:(!(Y1 n 0)&&Y1 (vc s) n)=I0:=e;simp only[N5,yO]at e;exact⟨tA e.1,s,t,O,L6 e.2⟩
  |_=>contradiction
 |B0=>exact⟨λ v e=>(by contradiction),λ l e h av _ _=>Fu.mp e⟩
 |A0 a r IG PA=>
  refine⟨λ v e=>(by contradiction),λ l e h av bo ha=>?_⟩;cases l using c5 with
  |B0=>contradiction
  |A0 v q=>
   have e:((jT w a).1 v&&(jT w r).2 q)=I0:=e;rw[N5]at e;exact⟨v,q,O,IG.1 v e.1 h av bo ha,PA.2 q e.2 h av bo ha⟩
 |Q0 l ih=>
  refine⟨λ v e h av bo ha=>?_,λ l e=>by contradiction⟩;cases v using EP with
  |J0 a=>
   have e:(X6 a 944&&((Ae (ob w a)).Y4 (jT w l).2).gI R0)=I0:=e;rw[N5]at e;obtain⟨lt,e⟩:=e;cases ee:Ae (ob w a)with
   |H0=>rw[ee]at e;contradiction
   |E0 vs=>
    rw[ee]at e;obtain⟨k,ee⟩:=C70 ee;have g:(Q5 t).hf.W5 a=E0 (E8 vs k):=uO (i6 lt) ee (by simp);refine⟨a,vs,k,O,λ q=>?_,bo _ _ g (uQ g (by simp)) (by simp) (by simp),ih.2 _ e h av bo ha⟩;rw[ha a q]at g;contradiction
  |_=>contradiction
 |Z0 a=>
  refine⟨λ v e h av _ _=>?_,λ l e=>by contradiction⟩;cases v using EP with
  |J0 b=>exact G6 w6 (L6 e).Y3
  |_=>contradiction
 |_=>exact⟨λ v e=>(by contradiction),λ l e=>by contradiction⟩
def AW(v:K0):C0:=match v with
 |.Y0 s _=>vc s
 |_=>0
theorem E70{es:L4 QN}(sk:WA0 es){x:C1}(h0:vc x≠0):Sm es x=(es.XE.find? λ e=>Y1 (AW vR) (vc x)).Y4 (·.x8):=by
 obtain⟨l⟩:=es;simp only[Sm,bA0,WT0];have:∀e∈l,(vR.Fz x)=Y1 (AW vR) (vc x):=λ e he=>by
  obtain⟨n,t,hk⟩:=sk e (by simpa using he);rw[hk];show(n==x)=Y1 (vc n) (vc x);by_cases q:n=x
  ·subst q;rw[GW];exact(fZ _).Y3
  ·rw[show(n==x)=R0 by simpa using q];cases hb:Y1 (vc n) (vc x)with
   |R0=>rfl
   |I0=>exact T3 (cO (L6 hb).Y3 h0).Y3 q
 clear sk;induction l with
 |B0=>rfl
 |A0 e r ih=>
  rw[H90,H90,J2 e (TE ..)];cases Y1 (AW vR) (vc x)using n7 with
  |I0=>rfl
  |R0=>exact ih λ e he=>J2 e (yB _ he)
def eP(l:P0 QN):P0 (C0×K0):=qP λ e=>(AW vR,e.x8)
def JN(l:P0 (C0×K0))(k:C0):Q1 K0:=@cL (C0×K0) (λ _=>Q1 K0) H0 (λ p _ ih=>@O8 (λ _=>Q1 K0) ih (E0 p.2) (Y1 p.1 k)) l
theorem F70(k:C0):∀l:P0 QN,(l.find? λ e=>Y1 (AW vR) k).Y4 (·.x8)=JN (eP l) k:=by
 intro l;induction l with
 |B0=>rfl
 |A0 e r ih=>
  have:JN (eP (e::r)) k=@O8 (λ _=>Q1 K0) (JN (eP r) k) (E0 e.x8) (Y1 (AW vR) k):=O;rw[J2,H90];cases Y1 (AW vR) k
  ·exact ih
  ·rfl
def RQ0(w:M4)(l:P0 (C0×K0)):I1:=gL.ZA λ p=>match JN l p.1 with|E0 v=>(jT w p.2).1 v|H0=>R0
theorem SQ0(w:M4):RQ0 w (eP (GN w 3))=I0:=by kernel_rfl
theorem TQ0{x:C0}{p:PV}:∀{l:P0 (C0×PV)},sr x l=E0 p->(x,p)∈l:=by
 intro zq;induction zq with
 |B0=>
  intro h;contradiction
 |A0 pq r ih=>
  intro h;obtain⟨k,q⟩:=pq;have h:@O8 (λ _=>Q1 PV) (sr x r) (E0 q) (Y1 k x)=E0 p:=h;cases hb:Y1 k x with
  |I0=>
   rw[hb]at h;obtain O:=H3 h;rw[L6 hb];exact TE ..
  |R0=>rw[hb]at h;exact yB _ (ih h)
theorem UQ0{x:C1}{p:PV}(h0:vc x≠0)(h:gF (vc x)=E0 p):∃v,mN w 3 x=E0 v/\∀h av,VD (Q5 t) h->(∀a∈av,(Q5 t).hf.W5 a=H0)->mJ av p h v:=by
 have:=zQ (SQ0 w) _ (TQ0 h);cases ev:JN (eP (GN w 3)) (vc x)with
 |H0=>rw[ev]at J2;contradiction
 |E0 v=>
  rw[ev]at J2;exact⟨v,(E70 (Sx m3).2 h0).V2 ((F70 _ _).V2 ev),(D70 p).1 v J2⟩
def IZ:P0 (C1×K0):=[((("len":C1)),OW "len"),("isinstance",.Z4 "isinstance"),("sorted",.Z4 "sorted"),("str",.U0 "str"),("tuple",.U0 "tuple"),("list",.U0 "list"),("dict",.U0 "dict"),
  ("zip",.U0 "zip"),("enumerate",.U0 "enumerate"),("range",.U0 "range"),("int",.U0 "int"),("Exception",.U0 "Exception"),("max",.Z4 "max"),("min",.Z4 "min")]
theorem VQ0(w:M4):IZ.Y4 (λ p=>(mN w 3 p.1,mN w 0 p.1))=IZ.Y4 λ p=>(H0,E0 p.2):=by kernel_rfl
theorem G70{x:C1}{v:K0}(h:(x,v)∈IZ):mN w 3 x=H0/\mN w 0 x=E0 v:=by
 have:=ar (VQ0 w) _ h;exact⟨G6 (·.1) J2,G6 (·.2) J2⟩
theorem Jl{i:C0}{x:C1}{v:K0}(h:IZ[i]?=E0 (x,v)):mN w 3 x=H0/\mN w 0 x=E0 v:=G70 (IL h)
theorem H70:mN w 3 "int"=H0/\mN w 0 "int"=E0 (.U0 "int"):=Jl (i:=10) O
theorem WQ0:mN w 3 "Exception"=H0/\mN w 0 "Exception"=E0 (.U0 "Exception"):=Jl (i:=11) O
theorem I70:mN w 3 "max"=H0/\mN w 0 "max"=E0 (.Z4 "max"):=Jl (i:=12) O
theorem XQ0:mN w 3 "min"=H0/\mN w 0 "min"=E0 (.Z4 "min"):=Jl (i:=13) O
theorem YQ0(w:M4):(mN w 2 "sys.recursionlimit").aE=I0:=by kernel_rfl
theorem ZQ0:∀p∈IZ.vL 10,p∈IZ:=λ p h=>P0.mem_of_mem_take h
def Kl(t:ME w):R7 (Q5 t) gF where
 mg:=mN w 3
 mb:=mN w 0
 hmg h bo:=mQ m3 h bo
 hmb h bo:=mQ m0 h bo
 noLimit h bo:=⟨_,mQ m2 h bo,hY (YQ0 w)⟩
 Wm x p hx h:=UQ0 (xK hx).2.2 h
 bi x v h:=G70 (ZQ0 _ h)
theorem Ux(w:M4):(ob w 4,mN w 3 "__builtins__")=(E0 ⟨.U0 "module",E0 0,.uF,#[]⟩,E0 (.J0 4)):=by kernel_rfl
def aQ0(t:ME w):rV (Kl t)where
 bm:=4
 o:=⟨.U0 "module",E0 0,.uF,#[]⟩
 n8:=G6 (·.2) (Ux w)
 n1:=by decide
 n2:=by decide
 l9:=uO (by decide) (G6 (·.1) (Ux w)) (by simp)
 O2:=O
 H2:=O
 L3:=O
 z1:=uQ (uO (by decide) (G6 (·.1) (Ux w)) (by simp)) (by simp)
 z2:=by show 3∉mR (·.2);decide +E7
end
section
variable{w:World}{t:Top w}
def UK(fd:LH):P0 U5:=match FB0 with
 |.vD b=>b
 |_=>[]
def Ll(w:M4)(L:y5)(p:Pm):P0 C1->P0 K0->I1:=
 @Pm.GR (λ _=>P0 C1->P0 K0->I1) (λ ns ds=>ns.WL&&ds.WL)
  (λ x _ ih ns ds=>match ns with|s::ns=>Y1 (vc s) x&&(w4 s&&(x6 L s&&ih ns ds))|_=>R0)
  (λ x d _ ih ns ds=>match ns,ds with|s::ns,v::ds=>Y1 (vc s) x&&(w4 s&&(x6 L s&&((jT w d).1 v&&ih ns ds)))|_,_=>R0) p
theorem bQ0{L:y5}{G:Gh}{h:O1}(bo:VD (Q5 t) h)(tQ:∀a∈E5,(Q5 t).hf.W5 a=H0)(p:Pm):∀{ns:P0 C1}{ds:P0 K0}{L1 O0:PV}{K5:P0 K0},Ll w L p ns ds=I0->k00 L1=E0 O0->A4 G h L1 K5->
  CK<=IK/\IK<=CK+ZL/\ZL<=IK/\S8 G h O0 (ns.r8 (K5++ds.SG (ZL-(IK-CK))))/\∀x∈ns,w4 x=I0/\x6 L x=I0:=by
 induction p with
 |B0=>
  intro ns ds L1 O0 K5 hc hb hr;have hc:(ns.WL&&ds.WL)=I0:=hc;rw[N5,Fu,Fu]at hc;obtain⟨O,O⟩:=hc;have lc:=Aj hr;cases lc using s00 with
  |B0=>
   obtain O:=H3 hb;exact⟨A8 _,A8 _,A8 _,O,λ _ h=>by contradiction⟩
  |A0=>have hb:H0=E0 O0:=hb;contradiction
 |N1 x r ih=>
  intro ns ds L1 O0 K5 hc hb hr;cases ns using c5 with
  |B0=>contradiction
  |A0 s ns=>
   have hc:(Y1 (vc s) x&&(w4 s&&(x6 L s&&Ll w L r ns ds)))=I0:=hc;simp only[N5]at hc;obtain⟨h1,h2,h3,h4⟩:=hc;have h1:=L6 h1;have lc:=Aj hr;cases lc using s00 with
   |B0=>have hb:H0=E0 O0:=hb;contradiction
   |@A0 a q v vs ra rq=>
    have hb:(r.R6 q).Y4 (.kv x a)=E0 O0:=hb;obtain⟨e',he,O⟩:=QQ hb;obtain⟨l1,l2,l3,rd,ok⟩:=ih h4 he rq;refine⟨yJ l1,ω82 l2,fs l3,?_,λ y hy=>?_⟩
    ·rw[EJ,EJ,V80,zt,EW];exact⟨s,v,_,O,h1▸(xK h2).2.2,h1,ra,rd⟩
    ·rcases dA hy with O|hy
     ·exact⟨h2,h3⟩
     ·exact ok y hy
 |PN x d r ih=>
  intro ns ds L1 O0 K5 hc hb hr;cases ns using c5 with
  |B0=>contradiction
  |A0 s ns=>
   cases ds using c5 with
   |B0=>contradiction
   |A0 dv ds=>
    have hc:(Y1 (vc s) x&&(w4 s&&(x6 L s&&((jT w d).1 dv&&Ll w L r ns ds))))=I0:=hc;simp only[N5]at hc;obtain⟨h1,h2,h3,h5,h4⟩:=hc;have h1:=L6 h1;have lc:=Aj hr;cases lc using s00 with
    |@A0 a q v vs ra rq=>
     have hb:(r.R6 q).Y4 (.kv x a)=E0 O0:=hb;obtain⟨e',he,O⟩:=QQ hb;obtain⟨l1,l2,l3,rd,ok⟩:=ih h4 he rq;refine⟨yJ l1,ω74 l2,yJ l3,?_,λ y hy=>?_⟩
     ·have e:ZL+1-(IK-Q7)=ZL-(IK-Q7)+1:=ω10 l2;rw[EJ,EJ,EJ,V80,e,MT0,zt,EW];exact⟨s,v,_,O,h1▸(xK h2).2.2,h1,ra,rd⟩
     ·rcases dA hy with O|hy
      ·exact⟨h2,h3⟩
      ·exact ok y hy
    |B0=>
     have hb:(r.R6 .B0).Y4 (.kv x d)=E0 O0:=hb;obtain⟨e',he,O⟩:=QQ hb;obtain⟨l1,l2,l3,rd,ok⟩:=ih (K5:=[]) h4 he O;have l2:IK<=ZL:=by rw[qT,TW]at l2;exact l2
     refine⟨MN _,by rw[qT,TW];exact yJ l2,yJ l3,?_,λ y hy=>?_⟩
     ·have e2:ZL-(IK-0)=0:=ω27 l3;rw[qT,e2]at rd;rw[EJ,EJ,qT,C0.sub_zero,V80,ω27 l3,Q90,G90,EW];exact⟨s,dv,_,O,h1▸(xK h2).2.2,h1,Js ((D70 d).1 dv h5 h E5 bo tQ),rd⟩
     ·rcases dA hy with O|hy
      ·exact⟨h2,h3⟩
      ·exact ok y hy
def Ml:P0 C0->I1
 |[]=>I0
 |x::r=>!(r.K4 (Y1 x))&&Ml r
theorem cQ0:∀{l:P0 C1},Ml (qP vc)=I0->l.GD:=by
 intro zq;induction zq with
 |B0=>
  intro _;exact vb
 |A0 x r ih=>
  intro h;have h:(!((rP vc).K4 (Y1 (vc x)))&&Ml (rP vc))=I0:=h;rw[N5,yO,u80]at h;exact CP.B8 ⟨λ q=>h.1 _ (AP ⟨x,q,O⟩) (fZ _),ih h.2⟩
def Qk(w:M4)(v:K0):Q1 (P0 K0):=match v with
 |.H0=>E0 []
 |.J0 d=>bif X6 d 944 then Ae (ob w d)else H0
 |_=>H0
theorem dQ0{v:K0}{ds:P0 K0}(h:Qk w v=E0 ds){s:D1}(bo:VD (Q5 t) W0)(M:UB)(A:B6)(E:K0->D1->Prop)(Q:Q1 (L4 K0)->D1->Prop)(k:∀r,r.gI #[]=ds.N8->Q r s):V0 M A (ql v) Q E s:=by
 cases v using EP with
 |H0=>
  obtain O:=H3 h;show V0 M A (J4 ()>>=λ _=>J4 H0) Q E s;exact S0 (E2 (E2 (k H0 O)))
 |J0 d=>
  obtain⟨hd,h⟩:=PC h;obtain⟨n,e⟩:=C70 h;have g:(Q5 t).hf.W5 d=E0 _:=uO (i6 hd) e (by simp);exact zJ (bo _ _ g (uQ g (by simp)) (by simp) (by simp)) O (k _ O)
 |_=>contradiction
def J70(w:M4)(v:K0)(q:C1):I1:=match v with
 |.J0 c=>HZ.K4 (λ p=>Y1 p.1 c)&&Dl (VJ w c 1)==q
 |_=>R0
theorem K70{v:K0}{q:C1}(h:J70 w v q=I0):(∀h,VD (Q5 t) h->h.Gy v q)/\(Q5 t).Ji v:=by
 cases v using EP with
 |J0 c=>
  symm;have h:(HZ.K4 (λ p=>Y1 p.1 c)&&Dl (VJ w c 1)==q)=I0:=h;rw[N5]at h;obtain⟨⟨c',z⟩,hp,hq⟩:=va h.1;have hq:c'=c:=L6 hq;subst hq;obtain⟨_,_,c,o,vs,tk,e0,g,cc,d,r⟩:=yd (w:=w) hp;ext;cases e0;symm;have g:=io _ _ g;have hq2:=YD h.2;ext;exact⟨λ h bo=>⟨_,o,vs,tk,O,bo _ _ g (uQ g (by rw[cc];nofun)) (by rw[cc];nofun) (by rw[cc];nofun),d,hq2▸r⟩,_,z,O,hp⟩
 |_=>contradiction
def L70(L:y5):I1:=L.ZA λ p=>match p.2 with|.i7=>R0|_=>I0
theorem eQ0{L:y5}(h:L70 L=I0)(x:C1):D9 x≠E0 .i7:=λ q=>by
 have:=zQ h _ (FU q);contradiction
def LT.M1{α:Type}(t:LT α):P0 (C0×α):=@lA0 α (λ _=>P0 (C0×α)) [] (λ k v _ _ a b=>(k,v)::(a++b)) t
theorem d90{α:Type}{d:α}{x:C0}:∀{t:LT α},WX d x=d\/(x,WX d x)∈t.M1:=by
 intro t;induction t with
 |B0=>exact .S2 O
 |S3 k v l r il ir=>
  show(@O8 (λ _=>α) (@O8 (λ _=>α) (Gg d x) (Fg d x) (X6 x k)) v (Y1 x k))=d\/(x,@O8 (λ _=>α) (@O8 (λ _=>α) (Gg d x) (Fg d x) (X6 x k)) v (Y1 x k))∈(k,v)::(l.M1++r.M1);cases hb:Y1 x k with
  |I0=>exact .L2 (by rw[L6 hb];exact TE ..)
  |R0=>
   cases X6 x k using n7 with
   |I0=>exact il.JM id λ h=>yB _ (BT0 _ h)
   |R0=>exact ir.JM id λ h=>yB _ (OZ _ h)
def fd0:LH:={W2:="",JK:="",tC:=⟨[],[],H0,[],[],H0,[]⟩,O4:=.vD [],Z8:=⟨.pW,[],R0,R0,[]⟩,YE:=0,ZN:=[],KK:=.H0,YW:=.H0}
def NA(w:M4)(a:C0):LH:=match(oo w a).L3 with
 |.UG fd=>fd
 |_=>fd0
def fdR(fd:LH):LH:={fd with O4:=.vD (UK fd),ZN:=[],YE:=HP,lF:=aW,tC:=⟨[],NR.L1,H0,[],NR.J90,H0,NR.KK⟩,Z8:={GT with aL:=.pF,Md:=R0,bd:=R0}}
def M70(w:M4)(a:C0):C4:=⟨.U0 "function",(oo w a).H2,.UG (fdR (NA w a)),(oo w a).IC⟩
def N70(w:M4)(p:Pm)(fd:LH):I1:=J70 w HX fd.JK&&(L70 wS&&(Ml ((NR.L1.Y4 (·.TG)).Y4 vc)&&(match Qk w fd.KK with|E0 ds=>Ll w wS p (NR.L1.Y4 (·.TG)) ds|H0=>R0)))
def JZ(w:M4)(a:C0)(p:Pm):I1:=X6 a 944&&N70 w p (NA w a)
def Vx(e:W3):I1:=match e with
 |.fn _ _=>I0
 |.c7 _ _ _=>I0
 |_=>R0
def Be:P0 C0:=[21,36,85,92,99,106,113,118,125,132,146,153,158,165,170,186,193,198,203,210,217,224,229,236,241,247,254,261,266,273,287,299,304,309,314,319,326,333,340,347,352,359,364,371,378,392,399,406,413,418,425,432,439,446,453,475,480,487,492,499,506,511,526,540,547,554,561,568,575,582,589,596,603,610,617,622,629,636,643,648,655,662,669,676,683,690,702,709,716,732,753,774,796,818,825,839,846,853,864,871,878,885,892,897,904,911,918,923,928,933,938,943]
theorem fnIn:nz (λ a e=>bif Vx e then W_ (Y1 a)else I0)=I0:=by kernel_rfl
theorem O70(w:M4):Be.Y4 (ob w)=Be.Y4 λ a=>E0 (M70 w a):=by kernel_rfl
theorem Nl{a:C0}(h:W_ (Y1 a)=I0):a∈Be:=by
 obtain⟨b,hb,q⟩:=va h;rw[L6 q];exact hb
theorem Ol{a:C0}{p:Pm}{b:S}(ha:a∈Be)(h:JZ w a p=I0)(hc:cS gF cl 40 (NA w a).Z8.y7 (UK (NA w a))=b):∃fo:bQ (Q5 t) gF cl a p b,fo.fd=NA w a/\MX=UK (NA w a):=by
 unfold JZ at h;rw[N5]at h;obtain⟨lt,h⟩:=h;have e:=QU (O70 w) _ ha;have vQ:NA w a=fdR (NA w a):=by
  show(match((ob w a).gI _).L3 with|.UG fd=>fd|_=>fd0)=_;rw[e];rfl
 have g:(Q5 t).hf.W5 a=E0 _:=uO (i6 lt) e nofun;unfold M70 at g;rw[<-vQ]at g;generalize NA w a=fd at *;unfold N70 at h;rw[N5,N5,N5]at h;obtain⟨h8,h9,jX,FS⟩:=h;refine⟨{
  o:=_,fd:=fd,O4:=UK fd,l9:=g,Fj:=uQ g nofun,O2:=O,L3:=O,Gu:=G6 LH.O4 vQ,YA:=hc
  Hu:=G6 LH.ZN vQ,aL:=G6 (λ f=>f.ST) vQ,co:=G6 (λ f=>f.Z8.bd) vQ,gen:=G6 (λ f=>f.Z8.Md) vQ
  YE:=G6 LH.YE vQ,lF:=G6 LH.lF vQ
  Iu:=(K70 h8).1,zc:=(K70 h8).2,Ju:=eQ0 h9,l6:=λ x hx=>⟨(x,.l6),FU hx,O,O⟩
  dD:=λ{G s L1 O0 K5} bo tQ hb hr=>?_},O,O⟩
 have hp:NR=⟨[],NR.L1,H0,[],NR.J90,H0,NR.KK⟩:=G6 LH.tC vQ;cases Wx:Qk w fd.KK with
 |H0=>rw[Wx]at FS;contradiction
 |E0 dv=>
  rw[Wx]at FS;obtain⟨l1,l2,l3,rd,ok⟩:=bQ0 bo tQ p FS hb hr;have:=y50 (s:=s) (K5:=K5) (G5:=dv.N8) hp (cQ0 jX) (λ M A E Q k=>dQ0 Wx bo M A E Q k) (by rw[uj]at l1;exact l1) (by rw[uj]at l2;rw[kF];exact l2) (by rw[uj]at l3;rw[kF];exact l3);rw[kF]at J2;refine⟨_,?_,λ x hx=>ok x.1 (P0.of_mem_zip hx).1,J2⟩;simpa using rd
def P70(w:M4)(a:C0)(e:W3):I1:=match e with
 |.fn p _=>JZ w a p
 |.c7 _ p _=>JZ w a p
 |_=>I0
theorem fQ0(w:M4):nz (P70 w)=I0:=by kernel_rfl
def Q70(e:W3):Q1 S:=match e with
 |.fn _ b=>E0 b
 |.c7 _ _ b=>E0 b
 |_=>H0
def R70(w:M4)(p:C0×W3):Q1 S:=match p.2 with
 |.fn _ _=>E0 (cS gF cl 40 (NA w p.1).Z8.y7 (UK (NA w p.1)))
 |.c7 _ _ _=>E0 (cS gF cl 40 (NA w p.1).Z8.y7 (UK (NA w p.1)))
 |_=>H0
theorem gQ0(w:M4):VB0.Y4 (R70 w)=VB0.Y4 λ p=>Q70 p.2:=by kernel_rfl
theorem Xx{a:C0}{p:Pm}{b:S}(h:j7 a=.fn p b\/∃k,j7 a=.c7 k p b):∃fo:bQ (Q5 t) gF cl a p b,fo.fd=NA w a/\MX=UK (NA w a):=by
 symm;have h1:j7 a=.no\/_:=qm (d:=T_) (x:=a) (fQ0 w);have h2:j7 a=.no\/_:=d90 (d:=T_) (x:=a) (t:=Ii);have T7:∀e:W3,j7 a=e->e≠.no->P70 w a e=I0/\R70 w (a,e)=Q70 e:=λ e he hn=>by
  have hn:j7 a≠.no:=he▸hn;refine⟨?_,?_⟩
  ·rcases h1 with q|q
   ·exact T3 q hn
   ·rw[<-he];exact q
  ·rcases h2 with q|q
   ·exact T3 q hn
   ·have:=ar (gQ0 w) _ q;rw[<-he];exact J2
 have mem:j7 a≠.no->Vx (j7 a)=I0->a∈Be:=λ hn hd=>by
  symm;have h3:j7 a=.no\/_:=qm (d:=T_) (x:=a) fnIn;have h3:(bif Vx (j7 a)then W_ (Y1 a)else I0)=I0:=h3.WU0 hn;rw[hd]at h3;ext;exact Nl h3
 rcases h with h|⟨k,h⟩
 ·obtain⟨x,y⟩:=T7 _ h nofun;ext;exact Ol (mem (by rw[h];nofun) (by rw[h];rfl)) x (H3 y)
 ·obtain⟨x,y⟩:=T7 _ h nofun;ext;exact Ol (mem (by rw[h];nofun) (by rw[h];rfl)) x (H3 y)
theorem hQ0(t:ME w):Rk (Q5 t) gF cl TB:=λ a p b h=>by obtain⟨fo,_⟩:=Xx h;exact⟨fo⟩
end
section
variable{w:World}{t:Top w}
def Yx(f:C0->PV->I1)(l:PV):I1:=LI I0 (λ _ _=>I0) (λ k v ih=>f k v&&ih) l
theorem iQ0{f:C0->PV->I1}:∀{l:PV},Yx f l=I0->∀{k:C0}{v:PV},H4 k l=E0 v->f k v=I0:=by
 intro l;induction l with
 |kv k v r _ ih=>
  intro h x u e;have h:(f k v&&Yx f r)=I0:=h;rw[N5]at h;rw[uH]at e
  split at e
  ·rename_i q;obtain O:=H3 e;rw[<-q];exact h.1
  ·exact ih h.2 e
 |_=>intro _ k v e;contradiction
theorem S70{a:C0}(h:X6 a 944=I0)(e:W_ (Y1 a)=I0):a∉(Q5 t).Z/\∃o,(Q5 t).hf.W5 a=E0 o/\F4=.U0 "function":=by
 have g:(Q5 t).hf.W5 a=E0 _:=uO (i6 h) (QU (O70 w) _ (Nl e)) nofun;exact⟨uQ g nofun,_,g,O⟩
def QJ(w:M4):P0 C0->Frag
 |[]=>[]
 |a::r=>match ob w a with|E0 o=>(a,o)::QJ w r|H0=>QJ w r
theorem jQ0{a:C0}{o:C4}:∀{l:P0 C0},(QJ w l).X9 a=E0 o->ob w a=E0 o/\a∈l:=by
 intro zq;induction zq with
 |B0=>
  intro h;contradiction
 |A0 b r ih=>
  intro h;have h:(match ob w b with|E0 o=>(b,o)::QJ w r|H0=>QJ w r).X9 a=E0 o:=h;cases e:ob w b with
  |H0=>rw[e]at h;exact(ih h).JM id (yB _)
  |E0 o'=>
   rw[e]at h;have h:P0.X9 a ((b,o')::QJ w r)=E0 o:=h;rw[BR]at h;by_cases q:a=b
   ·subst q;rw[GW]at h;obtain O:=H3 h;exact⟨e,TE ..⟩
   ·rw[show(a==b)=R0 from beq_false_of_ne q]at h;exact(ih h).JM id (yB _)
def Zx:P0 (C0×C0×C0):=[(456,455,399),(693,692,561)]
def KN(p:C0×C0×C0):P0 C0:=[p.1,p.2.1,p.2.2]
theorem kQ0(w:M4):wz (λ p=>(KN p).Y4 λ a=>(ob w a).Y4 λ o=>(F4,ul))=wz λ _=>[E0 (.U0 "type",R0),E0 (.U0 "dict",R0),E0 (.U0 "function",R0)]:=by kernel_rfl
theorem lQ0:Zx.ZA (λ p=>(KN p).ZA λ a=>X6 a 944)=I0:=by kernel_rfl
theorem mQ0{o:C4}(h:ul=R0):F9≠.Yz:=λ z=>by
 obtain⟨c,d,dt,sl⟩:=o;cases z;contradiction
theorem nQ0{p:C0×C0×C0}(hp:p∈Zx)(h:O1)(bo:VD (Q5 t) h):(QJ w (KN p)).In h:=λ a o e=>by
 obtain⟨e,m⟩:=jQ0 e;have lt:=i6 (zQ (zQ lQ0 _ hp) _ m);have hk:∃c,(F4,ul)=(c,R0)/\(c=.U0 "type"\/c=.U0 "dict"\/c=.U0 "function"):=by
  have q:=QU (kQ0 w) _ hp;have w8:E0 (F4,ul)∈(KN p).Y4 (λ a=>(ob w a).Y4 λ o=>(F4,ul)):=AP ⟨a,m,by rw[e];rfl⟩;rw[q]at w8;rcases dA w8 with x|w8
  ·exact⟨_,H3 x,.S2 O⟩
  ·rcases dA w8 with x|w8
   ·exact⟨_,H3 x,.L2 (.S2 O)⟩
   ·exact⟨_,H3 (lT w8),.L2 (.L2 O)⟩
 obtain⟨c,q,hc⟩:=hk;obtain⟨q1,q2⟩:=lZ q;have n:F4≠.H0/\F4≠.U0 "frame"/\F4≠.U0 "traceback":=by
  rw[q1];rcases hc with O|O|O<;>exact⟨nofun,by decide,by decide⟩
 have g:(Q5 t).hf.W5 a=E0 o:=uO lt e (mQ0 q2);exact bo _ _ g (uQ g n.1) n.2.1 n.2.2
def frF(w:M4)(p:C0×C0×C0):=(i90 (QJ w (KN p)) p.1,OU (QJ w (KN p)) (.J0 p.1) Qc,aA0 (QJ w (KN p)) (.J0 p.2.2),j90 (QJ w (KN p)) (.J0 p.2.2) "__get__",RA0 (QJ w (KN p)) (.J0 p.2.2),OU (QJ w (KN p)) (.J0 p.1) "__getattribute__",OU (QJ w (KN p)) (.J0 p.1) "__getattr__")
theorem oQ0(w:M4):wz (frF w)=wz λ p=>(I0,E0 (E0 (.J0 p.2.2)),E0 (.U0 "function"),E0 (E0 (.Z4 "function.__get__")),E0 R0,E0 (E0 (.Z4 "object.__getattribute__")),E0 H0):=by kernel_rfl
def bx(C:C0)(k:Cl):I1:=match H4 wX NI with
 |E0 v=>Zx.K4 λ p=>Y1 C p.1&&YM v (.Z0 p.2.2)
 |H0=>I0
theorem pQ0{C:C0}{k:Cl}(h:bx C k=I0)(a:C0)(ha:H4 wX NI=E0 (.Z0 a)):∃K:Frag,(∀h,VD (Q5 t) h->K.In h)/\i90 K C=I0/\OU K (.J0 C) Qc=E0 (E0 (.J0 a))/\aA0 K (.J0 a)=E0 (.U0 "function")/\
  j90 K (.J0 a) "__get__"=E0 (E0 (.Z4 "function.__get__"))/\RA0 K (.J0 a)=E0 R0/\OU K (.J0 C) "__getattribute__"=E0 (E0 (.Z4 "object.__getattribute__"))/\OU K (.J0 C) "__getattr__"=E0 H0:=by
 unfold bx at h;rw[ha]at h;obtain⟨p,hp,q⟩:=va h;have q:(Y1 C p.1&&YM (.Z0 a) (.Z0 p.2.2))=I0:=q;rw[N5]at q;obtain O:=L6 q.1;obtain O:a=p.2.2:=L6 q.2;have e:=QU (oQ0 w) _ hp;unfold frF at e;simp only[DU0]at e;exact⟨_,nQ0 hp,e⟩
def kT(w:M4)(N:C0)(x:C1):I1:=(mN w N x).aE
theorem T70{N:C0}{c:K0}(h:(N,c)∈vO){x:C1}(h0:vc x≠0):mN w N x=JN (eP (GN w N)) (vc x):=(E70 (Sx h).2 h0).V2 (F70 _ _)
def BW(v:Q1 K0)(a:C0):I1:=match v with
 |E0 (.J0 b)=>Y1 b a
 |_=>R0
theorem Ce{v:Q1 K0}{a:C0}(h:BW v a=I0):v=E0 (.J0 a):=by
 cases v using Y9 with
 |H0=>contradiction
 |E0 v=>
  cases v using EP with
  |J0 b=>rw[L6 (h:Y1 b a=I0)]
  |_=>contradiction
theorem qQ0{k:C0}{v:K0}:∀{l:P0 (C0×K0)},JN l k=E0 v->(k,v)∈l:=by
 intro zq;induction zq with
 |B0=>
  intro h;contradiction
 |A0 pq r ih=>
  intro h;obtain⟨j,u⟩:=pq;have h:@O8 (λ _=>Q1 K0) (JN r k) (E0 u) (Y1 j k)=E0 v:=h;cases hb:Y1 j k with
  |I0=>rw[hb]at h;obtain O:=H3 h;rw[L6 hb];exact TE ..
  |R0=>rw[hb]at h;exact yB _ (ih h)
def K7:bV0:={W2:="",ay:=[],Ng:=[],ns:=0,JK:=""}
def z9(w:M4)(a:C0):bV0:=match(oo w a).L3 with
 |.O2 cd=>cd
 |_=>K7
def wO(w:M4)(a i:C0):Q1 K0:=(oo w a).IC.XE.gI i H0
def Ql(w:M4)(a:C0)(m:P0 K0)(ab:I1)(nw:U6):C4:=
 IP (z9 w a).W2 (z9 w a).JK a (z9 w a).ns (z9 w a).ay m I0 (z9 w a).cV0 (z9 w a).Y90 ab (z9 w a).GV0 (oo w a).H2 (wO w a 0) (wO w a 1) (wO w a 2) (wO w a 3) (wO w a 5) nw
def U70(x:I1)(e:W3):I1:=match e with
 |.O2 k=>MI==x
 |_=>R0
def KZ(x:I1):P0 C0:=(VB0.Lm λ p=>U70 x p.2).Y4 (·.1)
theorem rQ0(w:M4):(KZ R0).Y4 (ob w)=(KZ R0).Y4 λ a=>E0 (Ql w a [.U0 "object"] R0 "object.__new__"):=by kernel_rfl
theorem sQ0(w:M4):(KZ I0).Y4 (ob w)=(KZ I0).Y4 λ a=>E0 (Ql w a (.J0 39::AF) (z9 w a).Dy "Exception.__new__"):=by kernel_rfl
theorem V70(w:M4):ob w 39=E0 (Ql w 39 AF (z9 w 39).Dy "Exception.__new__"):=by kernel_rfl
theorem W70{a:C0}{k:Cl}(h:j7 a=.O2 k):a∈KZ MI:=by
 have h2:j7 a=.no\/_:=d90 (d:=T_) (x:=a) (t:=Ii);refine AP ⟨_,vT0 ⟨h2.WU0 λ q=>?_,?_⟩,O⟩
 ·rw[h]at q;contradiction
 ·show U70 MI (j7 a)=I0;rw[h];exact GW _
theorem X70{C N:C0}(h:yA0 (λ p=>Y1 p.2 N)=I0):(N,.U0 "dict")∈vO:=by
 obtain⟨p,hp,q⟩:=va h;exact .w7 _ (.w7 _ (.w7 _ (AP ⟨p,hp,by rw[L6 q]⟩)))
def tQ0(w:M4)(N:C0)(c:C0)(v:PV):I1:=match v with
 |.Z0 a=>X6 a 944&&(W_ (Y1 a)&&BW (JN (eP (GN w N)) c) a)
 |_=>I0
def De(w:M4)(C:C0)(k:Cl):I1:=X6 C 944&&(yA0 (λ p=>Y1 p.2 (z9 w C).ns)&&
  ((eP (GN w (z9 w C).ns)).ZA (λ p=>(H4 p.1 NI).sL)&&(Yx (tQ0 w (z9 w C).ns) NI&&
  (kT w (z9 w C).ns "__getattribute__"&&(kT w (z9 w C).ns "__getattr__"&&(kT w (z9 w C).ns "__setattr__"&&(BW (mN w (z9 w C).ns "__init__") VP&&(X6 VP 944&&(W_ (Y1 VP)&&bx C k)))))))))
theorem uQ0{C:C0}{k:Cl}(hm:C∈KZ R0)(h:De w C k=I0):Ay (cY (Q5 t) C k):=by
 unfold De at h;simp only[N5]at h;obtain⟨lt,h5,h6,h7,h8,h9,sV,jX,FS,Pd,gx⟩:=h;have hN:=X70 (C:=C) h5;have g:(Q5 t).hf.W5 C=E0 _:=uO (i6 lt) (QU (rQ0 w) _ hm) nofun;exact⟨{
  nm:=_,q:=_,N:=(z9 w C).ns,bs:=_,sn:=_,w0:=_,UJ:=_,dd:=_,k0:=_,k1:=_,k2:=_,k3:=_,k5:=_,mN:=mN w (z9 w C).ns
  l9:=g,Fj:=uQ g nofun,ns:=mQ hN
  iP:=λ x h0 hm=>by
   rw[T70 hN h0];cases hc:JN (eP (GN w (z9 w C).ns)) (vc x)with
   |H0=>rfl
   |E0 v=>
    have J2:(H4 (vc x) NI).sL=I0:=zQ h6 _ (qQ0 hc);rw[hm]at J2;contradiction
  Fb:=λ x a h0 hm=>by
   have J2:(X6 a 944&&(W_ (Y1 a)&&BW (JN (eP (GN w (z9 w C).ns)) (vc x)) a))=I0:=iQ0 h7 hm;rw[N5,N5]at J2;exact⟨by rw[T70 hN h0];exact Ce J2.2.2,S70 J2.1 J2.2.1⟩
  ga:=hY h8,gh:=hY h9,sa:=hY sV
  vZ:=⟨Ce jX,S70 FS Pd⟩
  R6:=pQ0 gx}⟩
def CC(w:M4)(a:C0):XK:=⟨(z9 w a).W2,(z9 w a).JK,a,(z9 w a).ns,(z9 w a).ay,(z9 w a).cV0,(z9 w a).Y90,(z9 w a).Dy,(z9 w a).GV0,(oo w a).H2,wO w a 0,wO w a 1,wO w a 2,wO w a 3,wO w a 5,mN w (z9 w a).ns⟩
def CW(w:M4)(a:C0):I1:=X6 a 944&&(yA0 (λ p=>Y1 p.2 (z9 w a).ns)&&CN.ZA (kT w (z9 w a).ns))
theorem jx{a:C0}{m:P0 K0}(e:ob w a=E0 (Ql w a m (z9 w a).Dy "Exception.__new__"))(h:CW w a=I0):
  (∀h,VD (Q5 t) h->B3 a=E0 (IP (CC w a).nm (CC w a).q a (CC w a).N (CC w a).bs m I0 (CC w a).sn (CC w a).w0 (CC w a).ab (CC w a).UJ (CC w a).dd (CC w a).k0 (CC w a).k1 (CC w a).k2 (CC w a).k3 (CC w a).k5 "Exception.__new__")/\
   aH (CC w a).N (CC w a).mN)/\∀n∈CN,(CC w a).mN n=H0:=by
 unfold CW at h;rw[N5,N5]at h;obtain⟨lt,h4,h5⟩:=h;have g:(Q5 t).hf.W5 a=E0 _:=uO (i6 lt) e nofun;exact⟨λ h bo=>⟨bo _ _ g (uQ g nofun) (show TL "type"≠.U0 "frame" by trivial) (show TL "type"≠.U0 "traceback" by trivial),mQ (X70 (C:=a) h4) h bo⟩,λ n hn=>hY (zQ h5 n hn)⟩
def Y70(w:M4)(a:C0)(e:W3):I1:=match e with
 |.O2 k=>@O8 (λ _=>I1) (De w a k) (CW w a&&(kT w (CC w a).N "__init__"&&!(Y1 a 39))) MI
 |_=>I0
theorem qx(w:M4):(nz (Y70 w)&&CW w 39)=I0:=by kernel_rfl
theorem Z70{a:C0}{k:Cl}(h:j7 a=.O2 k):Y70 w a (.O2 k)=I0:=by
 have h1:=qx w;rw[N5]at h1;have h1:j7 a=.no\/_:=qm (d:=T_) (x:=a) h1.1;rcases h1 with q|q
 ·rw[h]at q;contradiction
 ·rw[<-h];exact q
theorem vQ0(t:ME w):XD (Q5 t) TB:=λ c k h hk=>by
 symm;have J2:@O8 (λ _=>I1) (De w c k) (CW w c&&(kT w (CC w c).N "__init__"&&!(Y1 c 39))) MI=I0:=Z70 (w:=w) h;rw[hk]at J2;ext;exact uQ0 (hk▸W70 h) J2
def a70(t:ME w):WE (Q5 t) TB where
 l:=CC w 39
 leaf c hc:=by
  unfold T9 at hc;cases h:gP c with
  |O2 k=>
   rw[h]at hc;have hc:MI=I0:=hc;have J2:@O8 (λ _=>I1) (De w c k) (CW w c&&(kT w (CC w c).N "__init__"&&!(Y1 c 39))) MI=I0:=Z70 (w:=w) h;rw[hc]at J2;have J2:(CW w c&&(kT w (CC w c).N "__init__"&&!(Y1 c 39)))=I0:=J2;rw[N5,N5,yO]at J2;obtain⟨t1,t2,t3⟩:=J2;obtain⟨x1,x4⟩:=jx (t:=t) (QU (sQ0 w) _ (hc▸W70 h)) t1;obtain⟨y1,_⟩:=jx (t:=t) (V70 w) (ph (qx w)).2;exact⟨CC w c,O,tA t3,λ h bo=>⟨(x1 h bo).1,(y1 h bo).1,(x1 h bo).2,(y1 h bo).2⟩,hY t2,x4⟩
  |_=>rw[h]at hc;contradiction
 uM0:=(jx (t:=t) (V70 w) (ph (qx w)).2).2
def pmI:Pm:=.N1 (vc "self") (.N1 (vc "message") (.PN (vc "spot") (.j0 (.N4 0)) .B0))
theorem wQ0:j7 36=.fn pmI ur:=by kernel_rfl
def b70(L:y5):I1:=l7 L "self"&&(l7 L "message"&&(l7 L "spot"&&D7 L "Exception"))
theorem xQ0(w:M4):UK (NA w 36)=n50 ⟨8,8,8,17⟩ ⟨8,8,8,26⟩ ⟨8,27,8,31⟩ ⟨8,33,8,40⟩ ⟨8,8,8,41⟩ ⟨8,8,8,41⟩ ⟨9,8,9,12⟩ ⟨9,8,9,20⟩ ⟨9,23,9,30⟩ ⟨9,8,9,30⟩ ⟨10,8,10,12⟩ ⟨10,8,10,17⟩ ⟨10,20,10,24⟩ ⟨10,8,10,24⟩:=by kernel_rfl
theorem yQ0(w:M4):(b70 (NA w 36).Z8.y7&&BW (mN w (CC w 39).N "__init__") 36)=I0:=by kernel_rfl
theorem zQ0(w:M4):(l7 (NA w 36).Z8.y7 "self"=I0/\l7 (NA w 36).Z8.y7 "message"=I0/\l7 (NA w 36).Z8.y7 "spot"=I0/\D7 (NA w 36).Z8.y7 "Exception"=I0)/\mN w (CC w 39).N "__init__"=E0 (.J0 36):=by
 have:=yQ0 w;unfold b70 at J2;rw[N5,N5,N5,N5]at J2;exact⟨J2.1,Ce J2.2⟩
def AR0(t:ME w):wJ (Kl t) cl (a70 t):=
 have h:=Xx (w:=w) (.S2 wQ0);have i:=zQ0 w
 {ini:=36,gv:=i.2,p:=pmI,b:=ur,fo:=w90,pm:=O
  O4:=⟨_,_,_,_,_,_,_,_,_,_,_,_,_,_,bZ.2.V2 (xQ0 w),O⟩
  jv:=by rw[bZ.1];exact i.1.1
  JN0:=by rw[bZ.1];exact i.1.2.1
  nv:=by rw[bZ.1];exact i.1.2.2.1
  qv:=by rw[bZ.1];exact i.1.2.2.2
  J8:=WQ0}
theorem gA0:attrs.ZA (zG "object")=I0:=by kernel_rfl
theorem BR0:xE:=λ x h=>by
 unfold kD at h;rw[N5]at h;obtain⟨y,hy,e⟩:=va h.1;rw[<-YD e];exact iP (zQ gA0 y hy)
def DC(t:ME w):NM (Q5 t) gF cl TB:=⟨Kl t,aQ0 t,a70 t,AR0 t,vQ0 t,BR0,hQ0 t,O⟩
theorem CR0:j7 846=.c7 0 (.N1 xB (.N1 MV .B0)) Hi:=by kernel_rfl
theorem DR0(w:M4):UK (NA w 846)=H.fB (hU 72):=by kernel_rfl
theorem ER0(w:M4):(NA w 846).Z8=Rn (hU 72):=by kernel_rfl
def FR0(t:ME w):vd (DC t):=
 have h:=Xx (w:=w) (.L2 ⟨_,CR0⟩)
 ⟨w90,bZ.2.V2 (DR0 w),(G6 (·.Z8) bZ.1).V2 (ER0 w),H70⟩
theorem c70(t:ME w)(m:C0):Lv (Q5 t) gF cl (m+110) (jD EB TB m):=CQ0 (DC t) (FR0 t) m
end
section
variable{B:Bs}{A:Around}{G G0 G1 G2:Gh}{s s':Shared}{F:Addr->Prop}{n:Nat}{ih:B5}{T:Tab}{cenv:Env}{L:Kinds}{env:PV}
variable{g:Nat->Option PV}{cl:Nat->Nat}
theorem ux{FZ:C0->I1}{f:v0->C}{x:C1}{tp:Q3}(h:(w4 x&&x6 L x)=I0){v:PV}{σ:K1}:(XC FZ T ih (cT L f (.Z3 x tp)) v O0 σ).P1 (λ e Z5=>e=z5 (vc x) v O0/\Z5=σ) λ _ _=>I6:=by
 have:cT L f (.Z3 x tp)=.F0 (vc x):=by
  show(bif w4 x&&x6 L x then C.F0 (vc x)else .M2)=_;rw[h];rfl
 rw[J2];exact⟨O,O⟩
theorem GR0(CT:XD B T)(ON:xE)(HE:x7 B g cl n ih){x:C1}{tp:Q3}{O4:P0 U5}{v:K0}{W:P0 H1}{R:tL->D1->Prop}{m:C0}(hx:(w4 x&&x6 L x)=I0){J:C0->K1->PV->Prop}
  (hb:∀j G1 s1 yH,j<m->J j mF yH->F5 B n A N0 L (z5 (vc x) (aU (.N4 j)) yH) G1 s1->V0 R2 A (jC O4 N0) (λ f s2=>f=.W4/\∃G2 T8,Z2 B (C5 N0 L) G1 s1 G2 s2/\J1 B A G2 s2/\T5 B N0 D0 T8 G2 IN/\J (j+1) QR T8) (λ _ _=>I6) s1):
  ∀(d j:C0),j+d=m->∀{G:Gh}{s:D1}{O0:PV},F5 B n A N0 L O0 G s->wG G W0 (.dG j m) v W->xH B G W0 N0 W->J j R1 O0->
   (∀G' s' R9,Z2 B (zE N0 L W) G s G' s'->J1 B A G' s'->T5 B N0 D0 R9 G' T6->J m tF R9->R (.ok .W4) s')->FC R2 A (.Ue (.Z3 x tp) v O4 [] N0) R s:=by
 intro d;induction d with
 |i9=>
  intro j hj G s O0 X ia kP hJ hR;have hj:j=m:=by omega
  subst hj;refine Dv (Zj cn VB ia kz (λ q=>by contradiction) (f:=λ o=>W1 o) (P:=λ o σ=>o=H0/\σ=R1) (X:=λ _ _=>I6) (by
   show(F1 (bif X6 j j then W1 (E0 (aU (.N4 j),YU (j+1) j))else W1 B2) (λ o=>W1 o) R1).P1 _ _;have:X6 j j=R0:=by
    cases h:X6 j j with
    |R0=>rfl
    |I0=>exact T3 (i6 h) (C0.not_succ_le_self j)
   rw[J2];exact⟨O,O⟩) (λ s1 D2 g1 hf=>?_) λ s1 p u a' D2 g1 ru pa Mv hf=>(nomatch hf.1))
  exact hR G s1 O0 (bC λ b q=> .L2 q) g1 (X.w_ D2 ie D_) hJ
 |c9 d ihd=>
  intro j hj G s O0 X ia kP hJ hR;have lt:j<m:=by exact ω83 ‹_›
  refine Dv (Zj cn VB ia kz (λ q=>by contradiction) (f:=λ o=>W1 o) (P:=λ o σ=>o=E0 (aU (.N4 j),YU (j+1) m)/\σ=R1) (X:=λ _ _=>I6) (by
   show(F1 (bif X6 j m then W1 (E0 (aU (.N4 j),YU (j+1) m))else W1 B2) (λ o=>W1 o) R1).P1 _ _;have:X6 j m=I0:=U80 lt;rw[J2];exact⟨O,O⟩) (λ s1 D2 g1 hf=>(nomatch hf.1)) λ s1 p u a' D2 g1 ru pa Mv hf=>?_)
  have hf:E0 (p,a')=E0 (aU (.N4 j),YU (j+1) m):=hf.1;cases hf;have A9:T5 B N0 D0 O0 G pE:=X.w_ D2 ie D_;have Xa:F5 B n A N0 L O0 G s1:=⟨aD,SB,g1,A9⟩;have Xe:xH B G pE N0 W:=kP.J6 D2;refine U3 ((Iv (FZ:=EB) (k:=0) CT ON HE Xa ru) _ _ (ux hx)) (λ _ s2 ⟨G2,T8,I2,g2,Q6,Ld,hH⟩=>?_) λ e s' ⟨_,_,_,_,_,h⟩=>V4;subst Ld;have V9:Z2 B (zE N0 L W) G s G2 s2:=(bC λ b q=> .L2 q).V2 (kL λ b q=> .S2 q);refine U3 (hb j G2 s2 O0 lt (by rw[hH];exact hJ) ⟨aD,SB,g2,Q6⟩) (λ f s3 ⟨hf,G3,mO,S5,g3,nD,hJ3⟩=>?_) λ _ _ h=>V4;subst hf;have mD:=(NP S5);exact ihd (j+1) (by exact ω55 ‹_›) ⟨aD,SB,g3,nD⟩ (MB0 mD λ b hb=>⟨NB0 b hb,OB0 b hb⟩) (Xe.J6 mD) hJ3 λ G' s' R9 QA g' yG hJ'=>hR G' s' R9 (V9.V2 ((W00 λ b q=> .S2 q).V2 QA)) g' yG hJ'
theorem d70(BF:R7 B g)(CT:XD B T)(ON:xE)(HE:x7 B g cl n ih){x:C1}{a:v0}{p q C2 tp:Q3}{O4 I4:P0 U5}{m:C0}(hm:m<=60)(hx:(w4 x&&x6 L x)=I0)(hg:D7 L "range"=I0)(ha:P8 a=I0)
  (X:F5 B n A N0 L O0 G s)(ev:N9 B A N0 G O0 a m){J:C0->K1->PV->Prop}(h0:J 0 R1 O0)
  (hb:∀j G1 s1 yH,j<m->J j mF yH->F5 B n A N0 L (z5 (vc x) (aU (.N4 j)) yH) G1 s1->V0 R2 A (jC O4 N0) (λ f s2=>f=.W4/\∃G2 T8,Z2 B (C5 N0 L) G1 s1 G2 s2/\J1 B A G2 s2/\T5 B N0 D0 T8 G2 IN/\J (j+1) QR T8) (λ _ _=>I6) s1)
  {CO:LJ->D1->Prop}{KG:K0->D1->Prop}
  (hr:∀G2 s2 T8,Z2 B (C5 N0 L) G s G2 s2->J1 B A G2 s2->T5 B N0 D0 T8 G2 IN->J m QR T8->V0 R2 A (jC I4 N0) CO KG s2):
  V0 R2 A (jC (.YX (.Z3 x tp) (.B7 (.Z3 "range" p) [a] [] q) O4 [] C2::I4) N0) CO KG s:=by
 refine xA (XV0 ?_ λ _=>O);refine mM (ZV BF II VB (tN "range" (.U0 "range") (IL (i:=9) O)) hg (by decide) ?_);have D4:[a].ZA P8=I0:=by simp[ha]
 refine wI (by rw[BL D4];rfl) (zI D4 ?_);rw[vI ha];refine uD (U3 (ev s _ VB OR) (λ v s1 ⟨⟨t,e⟩,D2,g1⟩=>?_) λ _ _ h=>h);subst e;refine GJ ⟨xM,?_⟩;refine E90 ?_;refine gS0 (e90 ..) (q90 (by decide) (by decide) (by exact JL _) (by omega)) ?_;have Y7:n80 0 (m:A2) 1=(m:A2):=by
  rw[A90]
  split
  ·simp
  ·exact ω30 ‹_›
 rw[Y7];have hk:∀b o,FJ b=E0 o->((QL {O2:=.U0 "range",L3:=.R5 #[.j0 0 jA,.j0 (m:A2) t,.j0 1 (jA+1)]}).y6 {O2:=.U0 "range_iterator",L3:=.R5 #[i5 0,i5 (m:A2),i5 1]}).W5 b=E0 o:=λ b o e=>rA _ _ _ _ (rA _ _ _ _ e);have C7:Tl ((QL {O2:=.U0 "range",L3:=.R5 #[.j0 0 jA,.j0 (m:A2) t,.j0 1 (jA+1)]}).y6 {O2:=.U0 "range_iterator",L3:=.R5 #[i5 0,i5 (m:A2),i5 1]}) (B9+1) ((0:C0):A2) ((m:A2)-((0:C0):A2)) 1:=by
  have:=BA (QL {O2:=.U0 "range",L3:=.R5 #[.j0 0 jA,.j0 (m:A2) t,.j0 1 (jA+1)]}) (o:={O2:=.U0 "range_iterator",L3:=.R5 #[i5 0,i5 (m:A2),i5 1]}) O;rw[TD]at J2;simpa using J2
 have sz:(QL {O2:=.U0 "range",L3:=.R5 #[.j0 0 jA,.j0 (m:A2) t,.j0 1 (jA+1)]}).SC.L9=B9+1:=TD ..;rw[sz];obtain⟨g2,I2⟩:=tA0 (tk:=jA+1+1) hk;have Q6:=(VL D2).RZ I2;have Jv:∀b∈[B9+1],s8 B G ((QL {O2:=.U0 "range",L3:=.R5 #[.j0 0 jA,.j0 (m:A2) t,.j0 1 (jA+1)]}).y6 {O2:=.U0 "range_iterator",L3:=.R5 #[i5 0,i5 (m:A2),i5 1]}) b:=
  nV (FX (G:=G) g1 (MG _ _) ⟨_,C7⟩)
 have gone:∀b∈[B9+1],FJ b=H0:=nV (pV (MG _ _));have kP:xH B G ((QL {O2:=.U0 "range",L3:=.R5 #[.j0 0 jA,.j0 (m:A2) t,.j0 1 (jA+1)]}).y6 {O2:=.U0 "range_iterator",L3:=.R5 #[i5 0,i5 (m:A2),i5 1]}) N0 [B9+1]:=by
  have A9:=VL D2;refine⟨Jv,λ q=>?_,λ y c hc q=>?_⟩
  ·obtain⟨m,⟨o,_,_,e,_⟩,_⟩:=A9.ns;rw[gone _ q]at e;contradiction
  ·obtain⟨u,o,e,_⟩:=A9.Si y c hc;rw[gone _ q]at e;contradiction
 have V9:Z2 B (C5 N0 L) G s G s1:=bC λ _ q=>P6;refine GR0 CT ON HE (W:=[B9+1]) (m:=m) hx (J:=J) hb m 0 (by exact TW _) (G:=G) (O0:=O0) ⟨aD,SB,g2,Q6⟩ ⟨_,O,O,C7⟩ kP h0 λ G' s' R9 QA g' yG hJ'=>?_;refine hr G' s' R9 ?_ g' yG hJ';refine V9.V2 (Z2.SG (F:=zE N0 L [B9+1]) ((kL λ _ q=>P6).V2 QA) λ b hb=>hb.JM id λ q=>gone b q)
end
section
variable{B:Bs}{A:Around}{G G0 G1 G2:Gh}{s s':Shared}{F:Addr->Prop}{n:Nat}{ih:B5}{T:Tab}{cenv:Env}{L:Kinds}{env:PV}
variable{g:Nat->Option PV}{cl:Nat->Nat}
def LZ(B:Bs)(l:C0)(xs:P0 A2):Prop:=∃vs:P0 K0,RH.Yl l JB/\Q7=YC/\(∀(i:C0)(x:A2),xs[i]?=E0 x->∃t,(vs[i]?:Q1 K0)=E0 (K0.j0 x t))/\l∉CG
theorem LZ.at{h:O1}{l:H1}{vs:L4 K0}(e:RH.Yl l vs)(hz:l∉CG)(bo:VD B h):wx l vs:=
 let⟨o,ho,hc,r⟩:=e;⟨o,bo _ _ ho hz (by rw[hc];simp) (by rw[hc];simp),hc,r⟩
theorem e70(BF:R7 B g)(ES:j9 N0 L){l:C0}{xs:P0 A2}(hs:LZ B l xs)(yL:YC<2^62){x:C1}{p1 p2 p3:Q3}(hn:w4 x=I0)(hl:l7 L x=I0)(hg:D7 L "len"=I0)(hv:H4 (vc x) O0=E0 (.Z0 l)):
  N9 B A N0 G O0 (.B7 (.Z3 "len" p1) [.Z3 x p2] [] p3) YC:=λ s E gd er=>by
 obtain⟨vs,e,bH,_,hz⟩:=hs;have e:=LZ.at e hz EC;refine mM (ZV BF ES gd (tN "len" (.Z4 "len") (IL (i:=0) O)) hg (by decide) ?_);refine wI (by rw[BL (by rfl)];rfl) (zI (by rfl) ?_);refine uD (rI ES er hn hl hv λ u ru=>GJ ⟨iV,?_⟩);have ru:u=.J0 l:=ru;subst ru;refine sT0 e (by rw[kF,bH];omega) ?_;rw[kF,bH];exact⟨⟨_,O⟩,(KJ _).2,(KJ _).1⟩
theorem f70{f:C1}{id:U6}(BF:R7 B g)(ES:j9 N0 L)(RA:QF f=H0/\RJ f=E0 (.Z4 id))(hd:(f==("__debug__":C1))=R0)(hg:D7 L f=I0){a b:v0}{p1 p2:Q3}(ha:P8 a=I0)(hb:P8 b=I0){i j z:A2}(e1:N9 B A N0 G O0 a i)(e2:N9 B A N0 G O0 b j)
  (lX:∀(s:D1)(t u:O6)(Q E:K0->D1->Prop),(∀h' tk t',(∀c o,E3 c=E0 o->C3 c=E0 o)->Q (.j0 z t') {s with A3:=h',y3:=tk})->V0 R2 A (W7 (.Z4 id) [.j0 i t,.j0 j u]) Q E s):
  N9 B A N0 G O0 (.B7 (.Z3 f p1) [a,b] [] p2) z:=λ s E gd er=>by
 refine mM (ZV BF ES gd RA hg hd ?_);have D4:[a,b].ZA P8=I0:=by simp[ha,hb]
 refine wI (by rw[BL D4];rfl) (zI D4 ?_);rw[vI ha,vI hb];refine uD (U3 (e1 s _ gd er) (λ v s1 ⟨⟨t,ev⟩,D2,g1⟩=>?_) λ _ _ h=>h);subst ev;refine uD (U3 (e2 s1 _ g1 (EI D2)) (λ v s2 ⟨⟨u,ev⟩,I2,g2⟩=>?_) λ _ _ h=>h);subst ev;refine GJ ⟨iV,lX s2 t u _ _ λ h' tk t' k=>?_⟩;obtain⟨g3,S5⟩:=vA0 (tk:=tk) k;exact⟨⟨_,O⟩,(AC I2).V2 S5,g3⟩
theorem g70(BF:R7 B g)(hh:C9=H0)(ES:j9 N0 L)(RA:QF "max"=H0/\RJ "max"=E0 (.Z4 "max"))(hg:D7 L "max"=I0){a b:v0}{p1 p2:Q3}(ha:P8 a=I0)(hb:P8 b=I0){i j:A2}(e1:N9 B A N0 G O0 a i)(e2:N9 B A N0 G O0 b j):
  N9 B A N0 G O0 (.B7 (.Z3 "max" p1) [a,b] [] p2) (if j>i then j else i):=
 f70 BF ES RA (by decide) hg ha hb e1 e2 λ s t u Q E h=>xO.max_two_ints hh λ h' tk k=>by
  by_cases q:j>i
  ·rw[w3 q]at h ⊢;exact h h' tk u k
  ·rw[u3 q]at h ⊢;exact h h' tk t k
theorem HR0(BF:R7 B g)(hh:C9=H0)(ES:j9 N0 L)(RA:QF "min"=H0/\RJ "min"=E0 (.Z4 "min"))(hg:D7 L "min"=I0){a b:v0}{p1 p2:Q3}(ha:P8 a=I0)(hb:P8 b=I0){i j:A2}(e1:N9 B A N0 G O0 a i)(e2:N9 B A N0 G O0 b j):
  N9 B A N0 G O0 (.B7 (.Z3 "min" p1) [a,b] [] p2) (if j<i then j else i):=
 f70 BF ES RA (by decide) hg ha hb e1 e2 λ s t u Q E h=>xO.min_two_ints hh λ h' tk k=>by
  by_cases q:j<i
  ·rw[w3 q]at h ⊢;exact h h' tk u k
  ·rw[u3 q]at h ⊢;exact h h' tk t k
theorem IR0{e:v0}{p:Q3}{i:A2}(h:N9 B A N0 G O0 e i):N9 B A N0 G O0 (.ZD .oP e p) (-i):=λ s E gd er=>
 Ev (U3 (h s E gd er) (λ v s1 ⟨⟨t,ev⟩,D2,g1⟩=>by
  subst ev;exact eM.TA0 ⟨⟨_,O⟩,AC (I00 _).2,(I00 _).1⟩) λ _ _ h=>h)
theorem JR0(ES:j9 N0 L){l:C0}{xs:P0 A2}(hs:LZ B l xs){x y:C1}{p1 p2 p3:Q3}(hn:w4 x=I0)(hl:l7 L x=I0)(hv:H4 (vc x) O0=E0 (.Z0 l))(bX:w4 y=I0)(KM:l7 L y=I0){k:C0}(eX:H4 (vc y) O0=E0 (.j0 k)){z:A2}(hk:k<2^62)(hz:xs[k]?=E0 z):
  N9 B A N0 G O0 (.xC (.Z3 x p1) (.Z3 y p2) p3) z:=λ s E gd er=>by
 obtain⟨vs,e,bH,D8,hZ⟩:=hs;have e:=LZ.at e hZ EC;obtain⟨t,ht⟩:=D8 k z hz;refine eY (rI ES er hn hl hv λ u ru=>rI ES er bX KM eX λ u2 zz=>wL zz λ t2 e2=>?_);have ru:u=.J0 l:=ru;subst ru e2;exact⟨_,_,e.wC,mr,bS0 e (by exact JL _) (by omega) (by simpa using ht) ⟨⟨t,O⟩,.L5 ..,gd⟩⟩
theorem KR0{op:eE}{a b:v0}{p:Q3}{i j:A2}{c:I1}{L_:X7 K0}(hm:Pv op b=R0)(e1:N9 B A N0 G O0 a i)(e2:N9 B A N0 G O0 b j)
  (lX:∀(s:D1)(t u:O6)(Q E:K0->D1->Prop),Q (.N3 c) s->V0 R2 A (RN op (.j0 i t) (.j0 j u)) Q E s)(gd:J1 B A G s)(er:T5 B N0 D0 O0 G W0){K:I1->D1->Prop}{E:K0->D1->Prop}
  (hK:∀s1,Z2 B N2 G s G s1->J1 B A G s1->K c s1):V0 R2 A (SH (.RP a [op] [b] p) N0 L_) K E s:=
 L80 (U3 (e1 s _ gd er) (λ v s1 ⟨⟨t,ev⟩,D2,g1⟩=>by
  subst ev;exact U3 (e2 s1 _ g1 (EI D2)) (λ v s2 ⟨⟨u,ev⟩,I2,g2⟩=>by
   subst ev;exact lX s2 t u _ _ (zi (hK s2 (AC I2) g2))) λ _ _ h=>h) λ _ _ h=>h) hm
end
section
variable{B:Bs}{A:Around}{G G0 G1 G2:Gh}{s s':Shared}{F:Addr->Prop}{n:Nat}{ih:B5}{T:Tab}{cenv:Env}{L:Kinds}{env:PV}{w:World}
def h70:P0 U5:=[.MF [(eN "cell" 728 4 8)] (.SU (eQ .Lt (eN "k" 728 24 25) (eC (eN "len" 728 28 31) [(eN "script" 728 32 38)] 728 28 39) 728 24 39) (eS (eN "script" 728 11 17) (eN "k" 728 18 19) 728 11 20) (eI 0 728 45 46) ⟨728,11,728,46⟩) ⟨728,4,728,46⟩,
 .MF [(eN "big" 729 4 7)] (eC (eN "max" 729 10 13) [(eC (eN "int" 729 14 17) [(eN "cell" 729 18 22)] 729 14 23),(eC (eN "int" 729 25 28) [(eO .BG (.ZD .oP (eI 1 729 30 31) ⟨729,29,729,31⟩) (eN "cell" 729 34 38) 729 29 38)] 729 25 39)] 729 10 40) ⟨729,4,729,40⟩,
 .MF [(eN "mixed" 730 4 9)] (eO .mX (eC (eN "int" 730 12 15) [(eO .nP (eO .oU (eO .oU (eO .oU (eO .mX (eC (eN "int" 730 17 20) [(eN "big" 730 21 24)] 730 17 25) (eI 2147483629 730 28 38) 730 17 38) (eO .nP (eO .nP (eI 7919 730 41 45) (eN "k" 730 48 49) 730 41 49) (eN "k" 730 52 53) 730 41 53) 730 17 53) (eO .nP (eI 31 730 56 58) (eN "k" 730 61 62) 730 56 62) 730 17 62) (eI 17 730 65 67) 730 17 67) (eI 48271 730 71 76) 730 16 76)] 730 12 77) (eI 2147483647 730 80 90) 730 12 90) ⟨730,4,730,90⟩,
 .QK (E0 (.P0 [(eO .nP (eN "big" 731 12 15) (eC (eN "int" 731 18 21) [(eQ .Pg (eN "big" 731 22 25) (eO .Pow (eI 10 731 29 31) (eI 18 731 35 37) 731 29 37) 731 22 37)] 731 18 38) 731 12 38),(eN "mixed" 731 40 45)] ⟨731,11,731,46⟩)) ⟨731,4,731,46⟩]
theorem LR0(w:M4):UK (NA w 839)=h70:=by kernel_rfl
def DI:y5:=(Rn (hU 71)).y7
theorem MR0(w:M4):(NA w 839).Z8.y7=DI:=by kernel_rfl
def pmP:Pm:=.N1 (vc "script") (.N1 (vc "k") .B0)
theorem NR0(w:M4):JZ w 839 pmP=I0:=by kernel_rfl
theorem n71:(w4 "script"&&l7 DI "script"&&w4 "k"&&l7 DI "k"&&w4 "cell"&&l7 DI "cell"&&x6 DI "cell"&&w4 "big"&&l7 DI "big"&&x6 DI "big"&&w4 "mixed"&&l7 DI "mixed"&&x6 DI "mixed"&&D7 DI "int"&&D7 DI "max"&&D7 DI "len")=I0:=by kernel_rfl
theorem OR0{t a b:v0}{p:Q3}{c:I1}{z:A2}(ht:∀(s:D1)(E:K0->D1->Prop)(K:I1->D1->Prop),J1 B A G s->T5 B N0 D0 O0 G W0->(∀s1,Z2 B N2 G s G s1->J1 B A G s1->K c s1)->V0 R2 A (SH t N0 (M5 t N0)) K E s)
  (h1:c=I0->N9 B A N0 G O0 a z)(h2:c=R0->N9 B A N0 G O0 b z):N9 B A N0 G O0 (.SU t a b p) z:=λ s E gd er=>
 dU0 (ht s E _ gd er λ s1 D2 g1=>by
  cases c using n7 with
  |I0=>exact U3 (h1 O s1 E g1 (EI D2)) (λ v s2 zz=>Ln zz λ hv I2 g2=>⟨hv,AC I2,g2⟩) λ _ _ h=>h
  |R0=>exact U3 (h2 O s1 E g1 (EI D2)) (λ v s2 zz=>Ln zz λ hv I2 g2=>⟨hv,AC I2,g2⟩) λ _ _ h=>h)
theorem PR0(BF:R7 B gF)(ES:j9 N0 L)(RA:QF "int"=H0/\RJ "int"=E0 (.U0 "int"))(hg:D7 L "int"=I0){op:eE}{a b:v0}{p q r:Q3}{i j:A2}{c:I1}(hm:Pv op b=R0)(e1:N9 B A N0 G O0 a i)(e2:N9 B A N0 G O0 b j)
  (lX:∀(s:D1)(t u:O6)(Q E:K0->D1->Prop),Q (.N3 c) s->V0 R2 A (RN op (.j0 i t) (.j0 j u)) Q E s):N9 B A N0 G O0 (.B7 (.Z3 "int" p) [.RP a [op] [b] q] [] r) (if c then 1 else 0):=λ s E gd er=>by
 refine mM (ZV BF ES gd RA hg (by decide) ?_);refine wI (by rw[BL (by rfl)];rfl) (zI (by rfl) ?_);refine uD (YT0 (U3 (e1 s _ gd er) (λ v s1 ⟨⟨t,ev⟩,D2,g1⟩=>?_) λ _ _ h=>h) hm);subst ev;refine U3 (e2 s1 _ g1 (EI D2)) (λ v s2 ⟨⟨u,ev⟩,I2,g2⟩=>?_) λ _ _ h=>h;subst ev;refine lX s2 t u _ _ (GJ ⟨xM,xO.call_int_bool ?_⟩);exact⟨⟨_,O⟩,(AC I2).V2 (S00 _).2,(S00 _).1⟩
theorem xx(CT:XD B T)(ON:xE)(HE:x7 B gF cl n ih)(X:F5 B n A N0 L O0 G s){x:C1}{e:v0}{i:A2}{I4:P0 U5}{C2 tp:Q3}(hx:(w4 x&&x6 L x)=I0)(h1:WM (.Z3 x tp) e=I0)(h3:mK (.Z3 x tp) e=I0)(hq:∀X5 gs sc p,e≠.NB X5 gs sc p)(ev:N9 B A N0 G O0 e i)
  {CO:LJ->D1->Prop}{KG:K0->D1->Prop}
  (hK:∀G2 s2,Z2 B (C5 N0 L) G s G2 s2->QR=R1->F5 B n A N0 L (z5 (vc x) (.j0 i) O0) G2 s2->V0 R2 A (jC I4 N0) CO KG s2):V0 R2 A (jC (.MF [.Z3 x tp] e C2::I4) N0) CO KG s:=
 yk (FZ:=EB) (k:=0) CT ON HE X h1 (by rfl) h3 hq ev (ux hx) λ G2 T8 s2 I2 g2 Q6 zz=>vN zz λ h1 h2=>by
  subst h1;exact hK G2 s2 I2 h2 ⟨aD,SB,g2,Q6⟩
theorem i70(t:ME w):∃b,∃fo:bQ (Q5 t) gF cl 839 pmP b,xI=DI/\MX=h70:=by
 obtain⟨fo,h1,h2⟩:=Ol (t:=t) (Nl (by kernel_rfl)) (NR0 w) (Eq.L5 (cS gF cl 40 (NA w 839).Z8.y7 (UK (NA w 839))));exact⟨_,fo,(G6 (·.Z8.y7) h1).V2 (MR0 w),h2.V2 (LR0 w)⟩
theorem QR0{t:ME w}{l:C0}{xs:P0 A2}(hs:LZ (Q5 t) l xs)(yL:YC<2^62){k:C0}(hk:k<2)(C6:M8 20 A)(gd:J1 (Q5 t) A G s){tk:O6}{P:PV->K1->Prop}{X:C0->K1->Prop}(hP:P (.J0 I3) (iL .R4)):
  V0 (Q5 t).M A (W7 (.J0 839) [.J0 l,.j0 k tk]) (Po (Q5 t) RV F A G s P) (Px (Q5 t) F A G s X) s:=by
 obtain⟨b,fo,hn,hb⟩:=i70 t;refine Gj (DC t).BF fo (n:=19) C6 gd (L1:=.A0 (.Z0 l) (.A0 (.j0 k) .B0)) (O0:=.kv (vc "script") (.Z0 l) (.kv (vc "k") (.j0 k) .B0)) ⟨_,_,O,O,_,_,O,⟨_,O⟩,O⟩ O λ{A' N0 s0} qL ES g0 er oO=>?_;rw[hb,hn];symm;rw[hn]at ES;change T5 (Q5 t) N0 D0 (.kv (vc "script") (.Z0 l) (.kv (vc "k") (.j0 k) .B0)) G UB0 at er;have hN:=n71;simp only[N5]at hN;obtain⟨⟨⟨⟨⟨⟨⟨⟨⟨⟨⟨⟨⟨⟨⟨o1,l1⟩,o2⟩,l2⟩,o3⟩,l3⟩,s3⟩,o4⟩,l4⟩,s4⟩,o5⟩,l5⟩,s5⟩,gi⟩,gm⟩,gl⟩:=hN;have Eg:=H70 (w:=w);have yx:=I70 (w:=w);have d1:vc "script"≠vc "k":=by decide +E7
 have d2:vc "cell"≠vc "k":=by decide +E7
 have d3:vc "big"≠vc "k":=by decide +E7
 have d4:vc "cell"≠vc "big":=by decide +E7
 have d5:vc "big"≠vc "mixed":=by decide +E7
 have v1:H4 (vc "script") (.kv (vc "script") (.Z0 l) (.kv (vc "k") (.j0 k) .B0))=E0 (.Z0 l):=by rw[uH,w3 O]
 have v2:H4 (vc "k") (.kv (vc "script") (.Z0 l) (.kv (vc "k") (.j0 k) .B0))=E0 (.j0 k):=by rw[uH,u3 d1,uH,w3 O]
 have RR0:M8 5 A':=bf (by exact i6 O);have X0:F5 (Q5 t) 5 A' N0 DI (.kv (vc "script") (.Z0 l) (.kv (vc "k") (.j0 k) .B0)) G s0:=⟨RR0,ES,g0,er⟩;ext;generalize(PV.kv (vc "script") (.Z0 l) (.kv (vc "k") (.j0 k) .B0))=bA at *;symm;have CT:=(DC t).CT;have ON:=(DC t).ON;have HE:x7 (Q5 t) gF cl 5 i9:=(Uk 5).A6;have EK:=IF;ext;obtain⟨c0,MM⟩:∃c0:A2,(DE ((k:A2)<YC)=I0->xs[k]?=E0 c0)/\(DE ((k:A2)<YC)=R0->c0=0):=by
  by_cases q:(k:A2)<YC
  ·exact⟨xs[k]'(by exact rc.mp ‹_›),λ _=>P0.xR0 _,λ z=>(by rw[LW q]at z;contradiction)⟩
  ·exact⟨0,λ z=>(by rw[tj q]at z;contradiction),λ _=>O⟩
 refine xx CT ON HE X0 (i:=c0) (by rw[o3,s3];rfl) O O (λ _ _ _ _ q=>by contradiction) (OR0 (c:=DE ((k:A2)<YC))
  (λ s E K gd er hK=>KR0 O (DJ EK o2 l2 v2) (e70 (DC t).BF EK hs yL o1 l1 gl v1) (λ s t u Q E h=>eM.lt_int h) gd er hK)
  (λ q=>JR0 EK hs o1 l1 v1 o2 l2 v2 (by exact BM ‹_› O) (MM.1 q)) (λ q=>by rw[MM.2 q];exact DF)) λ G1 s1 D2 jH X1=>?_
 have v3:H4 (vc "cell") (z5 (vc "cell") (.j0 c0) bA)=E0 (.j0 c0):=by rw[WD,w3 O]
 refine xx CT ON HE X1 (by rw[o4,s4];rfl) O O (λ _ _ _ _ q=>by contradiction) (g70 (DC t).BF P00 EK yx gm O O (iT (DC t).BF EK Eg gi O (DJ EK o3 l3 v3))
  (iT (DC t).BF EK Eg gi O (pD (IR0 DF) (DJ EK o3 l3 v3) λ s t u Q E h=>eM.sub_int h))) λ G2 s2 I2 hH X2=>?_
 symm;generalize(if -1-c0>c0 then -1-c0 else c0)=IO at X2 I2;have v4:H4 (vc "big") (z5 (vc "big") (.j0 IO) (z5 (vc "cell") (.j0 c0) bA))=E0 (.j0 IO):=by rw[WD,w3 O]
 ext;have v5:H4 (vc "k") (z5 (vc "big") (.j0 IO) (z5 (vc "cell") (.j0 c0) bA))=E0 (.j0 k):=by rw[WD,u3 (E9 d3),WD,u3 (E9 d2)];exact v2
 generalize z5 (vc "big") (.j0 IO) (z5 (vc "cell") (.j0 c0) bA)=T8 at *;have Ka:(0:A2)<=k/\(k:A2)<2^63:=⟨by exact JL _,by omega⟩;refine xx CT ON HE X2 (by rw[o5,s5];rfl) O O (λ _ _ _ _ q=>by contradiction) (pD (iT (DC t).BF EK Eg gi O (pD (pD (pD (pD (pD (iT (DC t).BF EK Eg gi O (DJ EK o4 l4 v4)) DF λ s t u Q E h=>ma (by decide) h)
  (pD (pD DF (DJ EK o2 l2 v5) λ s t u Q E h=>QZ h (zV Ka.1 Ka.2)) (DJ EK o2 l2 v5) λ s t u Q E h=>QZ h (zV Ka.1 Ka.2)) λ s t u Q E h=>ii h)
  (pD DF (DJ EK o2 l2 v5) λ s t u Q E h=>QZ h (zV Ka.1 Ka.2)) λ s t u Q E h=>ii h) DF λ s t u Q E h=>ii h) DF λ s t u Q E h=>QZ h (zV (by decide) (by decide))))
  DF λ s t u Q E h=>ma (by decide) h) λ G3 s3 S5 rQ X3=>?_
 symm;generalize A2.Py (_*_) _=lR at X3 S5;have d6:vc "mixed"≠vc "big":=E9 d5;ext;have v6:H4 (vc "big") (z5 (vc "mixed") (.j0 lR) T8)=E0 (.j0 IO):=by rw[WD,u3 d5];exact v4
 symm;have v7:H4 (vc "mixed") (z5 (vc "mixed") (.j0 lR) T8)=E0 (.j0 lR):=by rw[WD,w3 O]
 have e1:N9 (Q5 t) A' N0 G3 (z5 (vc "mixed") (.j0 lR) T8) (eO .nP (eN "big" 731 12 15) (eC (eN "int" 731 18 21) [(eQ .Pg (eN "big" 731 22 25) (eO .Pow (eI 10 731 29 31) (eI 18 731 35 37) 731 29 37) 731 22 37)] 731 18 38) 731 12 38) (IO*(if DE (IO≥10^(18:A2).gR)then 1 else 0)):=
  pD (DJ EK o4 l4 v6) (PR0 (DC t).BF EK Eg gi (c:=DE (IO≥10^(18:A2).gR)) O (DJ EK o4 l4 v6) (pD DF DF λ s t u Q E h=>eM.pow_int_small (by decide) (by decide) (by decide) h) λ s t u Q E h=>hV0 h) λ s t u Q E h=>QZ h (zV (by split<;>decide) (by split<;>decide))
 have e2:N9 (Q5 t) A' N0 G3 (z5 (vc "mixed") (.j0 lR) T8) (eN "mixed" 731 40 45) lR:=DJ EK o5 l5 v7;generalize(IO*(if DE (IO≥10^(18:A2).gR)then 1 else 0))=z1 at e1;ext;refine xA (Kb (b90 ?_));refine uD (U3 (e1 s3 _ X3.gd X3.er) (λ v s4 ⟨⟨t1,ev1⟩,sA,g4⟩=>?_) λ _ _ h=>h);subst ev1;refine uD (U3 (e2 s4 _ g4 (X3.EI sA)) (λ v s5 ⟨⟨t2,ev2⟩,DN,g5⟩=>?_) λ _ _ h=>h);subst ev2;refine GJ ⟨show 2<=XA by decide,?_⟩;symm;have xF:(s5.so (lB [.j0 z1 t1,.j0 lR t2] 0)).W5 s5.og=E0 (lB [.j0 z1 t1,.j0 lR t2] 0):=BA _ O;obtain⟨g6,Iw⟩:=g5.y6 (tk:=s5.y3) (o:=.R4) (ob:=lB [.j0 z1 t1,.j0 lR t2] 0) ⟨_,_,_,_,_,xF⟩;have Jk:Z2 (Q5 t) (C5 N0 DI) G s0 (G3.OB .R4 s5.og) _:=((AC I2).V2 S5).V2 (((sA.V2 DN).V2 Iw).D5 λ _ q=>P6);have FM:y_=R1:=rQ.V2 (hH.V2 jH);ext;refine⟨_,.U1 (.J0 y_.n) .B0,Jk,g6,⟨rD _,G6 w6 (w3 O).Y3⟩,.S2 ⟨_,_,O,?_⟩⟩;show P (.J0 y_.n) (G3.pi .R4);rw[FM];exact hP
end
section
theorem draws{α:Type}{o:I7 α}{n:C0}(h:dn o=n+1){P:α->K1->Prop}{X:C0->K1->Prop}(hd:∀d,d<n+1->(dk o d).P1 P X):WH P X:=by
 cases o using I7.W9 with
 |YH m k=>cases h;exact hd
 |_=>cases h
theorem SR0(d:C0):d<11->pA tE (dk dF d)=I0:=
 kk9 (P:=λ d=>d<11->pA tE (dk dF d)=I0) (λ _=>rx0) (λ _=>rx1) (λ _=>rx2) (λ _=>rx3) (λ _=>rx4) (λ _=>rx5) (λ _=>rx6) (λ _=>rx7) (λ _=>rx8)
  (OM (P:=λ k=>k+9<11->pA tE (dk dF (k+9))=I0) (λ _=>rx9) (OM (P:=λ k=>k+10<11->pA tE (dk dF (k+10))=I0) (λ _=>xH0) λ k h=>T3 h (sb (hT0 11 k)))) d
structure j70(o:I7 PV):Prop where
 ZA:WH (λ p σ=>tE p σ=I0) λ _ _=>I6
theorem BW0{o:I7 PV}(h:dn o=11)(hr:∀d,d<11->pA tE (dk o d)=I0):j70 o:=⟨draws (n:=10) h λ d hd=>Y60 (hr d hd)⟩
theorem TR0:j70 ((jD EB TB 300).A6 (cE gF mU0 40 J9 QV) SV jG):=
 BW0 (o:=(jD EB TB 300).A6 (cE gF mU0 40 J9 QV) SV jG) (by have h:=r11;unfold dF xr at h;exact h) (by have h:=SR0;unfold dF xr at h;exact h)
end
section
variable{B:Bs}{A:Around}{G G0 G1 G2:Gh}{s s':Shared}{F:Addr->Prop}{n:Nat}{ih:B5}{T:Tab}{cenv:Env}{L:Kinds}{env:PV}{w:World}
theorem UR0(CT:XD B T)(ON:xE)(HE:x7 B gF cl n ih)(X:F5 B n A N0 L O0 G s){x:C1}{e:v0}{I4:P0 U5}{C2 tp:Q3}(hx:(w4 x&&x6 L x)=I0)(h1:WM (.Z3 x tp) e=I0)(h3:mK (.Z3 x tp) e=I0)(hq:∀X5 gs sc p,e≠.NB X5 gs sc p)
  {P:PV->K1->Prop}{CO:LJ->D1->Prop}{KG:K0->D1->Prop}(ev:V0 R2 A (M5 e N0) (Po B RV N2 A G s P) KG s)
  (hK:∀G2 s2 p,Z2 B (C5 N0 L) G s G2 s2->P p QR->F5 B n A N0 L (z5 (vc x) p O0) G2 s2->V0 R2 A (jC I4 N0) CO KG s2):V0 R2 A (jC (.MF [.Z3 x tp] e C2::I4) N0) CO KG s:=by
 refine xA ?_;refine S0 (yA ?_);rcases Xv (N0:=N0) (UH:=a_) h1 with q|⟨q,⟨X5,gs,sc,p2,O⟩,_⟩
 ·rw[q];refine S0 (E2 ?_);refine PI LG ?_;refine S0 (U3 ev (λ v s1 ⟨G1,p,D2,g1,rv,hp⟩=>?_) λ _ _ h=>h);refine U3 (Ck (FZ:=EB) (k:=0) CT ON HE (GC D2 g1) h3 (by rfl) (p:=p) rv (ux hx)) (λ f s2 ⟨hf,G2,T8,I2,g2,Q6,he,hs⟩=>?_) λ _ _ ⟨_,_,_,_,_,h⟩=>V4;subst hf;subst he;exact hK G2 s2 p ((bC λ _ q=>P6).V2 I2) (by rw[hs];exact hp) ⟨aD,SB,g2,Q6⟩
 ·exact T3 O (hq _ _ _ _)
theorem VR0(er:T5 B N0 D0 O0 G W0){i:C0}(hv:H4 (vc "source") O0=E0 (.J0 i))(hi:i<I3)(D8:O3 i=.R4):T5 B N0 D0 SV ⟨jG,λ _=>Y2 i,I5,E5⟩ W0:=by
 have T7:∀x v,H4 (vc x) SV=E0 v->H4 (vc x) O0=E0 (.J0 i)/\v=.J0 0:=λ x v h=>by
  unfold SV at h;rw[uH]at h
  split at h
  ·rename_i q;obtain O:=H3 h;rw[<-q];exact⟨hv,O⟩
  ·contradiction
 have DO:∀{u:K0},F3 G W0 (.J0 i) u->F3 ⟨jG,λ _=>Y2 i,I5,E5⟩ W0 (.J0 0) u:=λ⟨_,e⟩=>⟨C0.one_pos,e⟩;have s9:∀b,u9 ⟨jG,λ _=>Y2 i,I5,E5⟩ b->u9 G b:=λ b ⟨j,hj,hn,e⟩=>⟨i,hi,by rw[D8];simp,e⟩;obtain⟨m,hm,hr⟩:=dU;refine⟨⟨m,hm,λ x v h1 h2 h3 h4=>?_⟩,λ x v h1 h2 h3=>?_,OX,Jo,Cy,⟨λ q=>dP.1 (s9 _ q),dP.2⟩,λ x c h=>⟨λ q=>(yW x c h).1 (s9 _ q),(yW x c h).2⟩,Kg⟩
 ·obtain⟨k1,O⟩:=T7 x v h4;obtain⟨u,hu,ru⟩:=hr x _ h1 h2 h3 k1;exact⟨u,hu,DO ru⟩
 ·obtain⟨k1,O⟩:=T7 x v h3;obtain⟨c,u,hc,hu,ru⟩:=C00 x _ h1 h2 k1;exact⟨c,u,hc,hu,DO ru⟩
theorem WR0(t:ME w)(C6:M8 410 A)(ES:sG A N0 J9)(gd:J1 (Q5 t) A G s)(er:T5 (Q5 t) N0 D0 O0 G W0){i:C0}(hv:H4 (vc "source") O0=E0 (.J0 i))(hi:i<I3)(D8:O3 i=.R4){Q E:K0->D1->Prop}
  (hQ:∀s1,Z2 (Q5 t) N2 G s G s1->J1 (Q5 t) A G s1->Q (.N3 I0) s1):V0 (Q5 t).M A (M5 QV N0) Q E s:=by
 have X:=v60 hi D8;have LV:=c70 t 300;have AS:=v8 (k:=40) (L:=J9) (e:=QV) ⟨C6,ES,iA0 gd,VR0 er hv hi D8⟩;have ta:=TR0;generalize(jD EB TB 300).A6 (cE gF cl 40 J9 QV) SV=o at AS ta;refine U3 (AS _ _ ta.ZA) (λ v s1 ⟨G1,p,st,g1,rp,hp⟩=>?_) λ _ _ ⟨_,_,_,_,_,h⟩=>V4;have hp:tE p mF=I0:=hp;unfold tE at hp;rw[N5]at hp;obtain⟨g2,I2⟩:=X.kU gd st g1 (X60 hp.2);obtain O:=Z20 hp.1;have rp:v=.N3 I0:=rp;subst rp;exact hQ s1 I2 g2
def l70:I1:=w4 "script"&&l7 J9 "script"&&w4 "k"&&l7 J9 "k"&&x6 J9 "k"&&w4 "source"&&l7 J9 "source"&&x6 J9 "source"&&w4 "turn"&&x6 J9 "turn"&&D7 J9 "range"&&D7 J9 "max"&&D7 J9 "min"&&D7 J9 "len"&&D7 J9 "_law_pool"
theorem n90:l70=I0:=by kernel_rfl
def m70:P0 U5:=[.If (.ZD .XX QV ⟨881,15,881,73⟩) [.QK (E0 (eB R0 882 23 28)) ⟨882,16,882,28⟩] [] ⟨881,12,882,28⟩]
def n70:v0:=eC (eN "_law_pool" 879 17 26) [(eN "script" 879 27 33),(eN "k" 879 35 36)] 879 17 37
def XR0:v0:=eC (eN "max" 878 19 22) [(eI 1 878 23 24),(eC (eN "min" 878 26 29) [(eC (eN "len" 878 30 33) [(eN "script" 878 34 40)] 878 30 41),(eI 2 878 43 44)] 878 26 45)] 878 19 46
def YR0:P0 U5:=[.MF [(eN "source" 879 8 14)] n70 ⟨879,8,879,37⟩,.YX (eN "turn" 880 12 16) (eC (eN "range" 880 20 25) [(eI 4 880 26 27)] 880 20 28) m70 [] ⟨880,8,882,28⟩]
def o70:P0 U5:=.YX (eN "k" 878 8 9) (eC (eN "range" 878 13 18) [XR0] 878 13 47) YR0 [] ⟨878,4,882,28⟩::yr
def pmL:Pm:=.N1 (vc "script") .B0
theorem ZR0(w:M4):UK (NA w 943)=o70:=by kernel_rfl
theorem aR0(w:M4):(NA w 943).Z8.y7=J9:=by kernel_rfl
theorem bR0(w:M4):JZ w 943 pmL=I0:=by kernel_rfl
theorem cR0(t:ME w):∃b,∃fo:bQ (Q5 t) gF cl 943 pmL b,xI=J9/\MX=o70:=by
 obtain⟨fo,h1,h2⟩:=Ol (t:=t) (Nl (by kernel_rfl)) (bR0 w) (Eq.L5 (cS gF cl 40 (NA w 943).Z8.y7 (UK (NA w 943))));exact⟨_,fo,(G6 (·.Z8.y7) h1).V2 (aR0 w),h2.V2 (ZR0 w)⟩
theorem dR0(w:M4):BW (mN w 3 "_law_pool") 839=I0:=by kernel_rfl
theorem Z2.w7{G3:Gh}{s1 s2:D1}(hn:I3=0)(hm:PB=0)(D2:Z2 B F G s G1 s1)(I2:Z2 B F G0 s1 G3 s2)(h0:∀b,¬u9 G0 b)(av:Sz=iD):Z2 B F G s G3 s2 where
 st:=by obtain⟨h2,t2,e2⟩:=D2.st;exact by obtain⟨h3,t3,e3⟩:=I2.st;exact⟨h3,t3,by rw[e3,e2]⟩
 le:=⟨by rw[hn];exact MN _,λ i hi=>(by rw[hn]at hi;exact T3 hi (NG _)),I2.IU.V2 (av.V2 D2.IU),by rw[hm];exact MN _,λ i hi=>(by rw[hm]at hi;exact T3 hi (NG _))⟩
 s9 b hb:=by
  rcases I2.s9 b hb with q|q
  ·exact T3 q (h0 b)
  ·right
   cases e:E3 b with
   |H0=>rfl
   |E0 o=>
    obtain⟨o',e'⟩:=g00 b o e;rw[q]at e';contradiction
 AE b o e:=by obtain⟨o',e'⟩:=g00 b o e;exact I2.AE b o' e'
 JC b o e h1 h2 h3:=by obtain⟨o',e',q⟩:=D2.JC b o e h1 h2 h3;exact by obtain⟨yb,Rg,q'⟩:=I2.JC b o' e' (h0 b) h2 h3;exact⟨yb,Rg,q.V2 q'⟩
 Q0 b vs n hb e:=I2.Q0 b vs n (by rw[av,D2.IU];exact hb) (Z_ b vs n hb e)
 k3:=D2.k3.V2 I2.k3
end
section
variable{B:Bs}{A:Around}{G G0 G1 G2:Gh}{s s':Shared}{F:Addr->Prop}{cenv:Env}{env:PV}{w:World}
theorem zx:(w4 "script"=I0/\l7 J9 "script"=I0)/\(w4 "k"=I0/\l7 J9 "k"=I0/\x6 J9 "k"=I0)/\(w4 "source"=I0/\l7 J9 "source"=I0/\x6 J9 "source"=I0)/\(w4 "turn"=I0/\x6 J9 "turn"=I0)/\D7 J9 "range"=I0/\D7 J9 "max"=I0/\D7 J9 "min"=I0/\D7 J9 "len"=I0/\D7 J9 "_law_pool"=I0:=by
 have h:=n90;unfold l70 at h;simp only[N5]at h;obtain⟨⟨⟨⟨⟨⟨⟨⟨⟨⟨⟨⟨⟨⟨h1,h2⟩,h3⟩,h4⟩,h5⟩,h6⟩,h7⟩,h8⟩,h9⟩,sV⟩,jX⟩,FS⟩,Pd⟩,gx⟩,h15⟩:=h;exact⟨⟨h1,h2⟩,⟨h3,h4,h5⟩,⟨h6,h7,h8⟩,⟨h9,sV⟩,jX,FS,Pd,gx,h15⟩
theorem vn:vc "script"≠vc "k"/\vc "script"≠vc "source"/\vc "script"≠vc "turn"/\vc "source"≠vc "turn":=by decide +E7
theorem eR0(er:T5 B N0 D0 O0 G W0):T5 B N0 D0 .B0 ⟨SS,λ _=>0,I5,E5⟩ W0:=by
 have s9:∀b,¬u9 ⟨SS,λ _=>0,I5,E5⟩ b:=λ b zz=>f_ zz λ j hj _=>T3 hj (NG _);obtain⟨m,hm,hr⟩:=dU;exact⟨⟨m,hm,λ x v _ _ _ h=>by contradiction⟩,λ x v _ _ h=>(by contradiction),OX,Jo,Cy,⟨s9 _,dP.2⟩,λ x c h=>⟨s9 _,(yW x c h).2⟩,Kg⟩
theorem fR0(t:ME w)(X:F5 (Q5 t) 5 A N0 J9 O0 G s)(C6:M8 20 A){l:C0}{xs:P0 A2}(hs:LZ (Q5 t) l xs)(yL:YC<2^62){k:C0}(hk:k<2)(v1:H4 (vc "script") O0=E0 (.Z0 l))(v2:H4 (vc "k") O0=E0 (.j0 k)){KG:K0->D1->Prop}:
  V0 (Q5 t).M A (M5 n70 N0) (Po (Q5 t) RV N2 A G s λ p σ=>p=.J0 I3/\σ=iL .R4) KG s:=by
 obtain⟨⟨o1,l1⟩,⟨o2,l2,_⟩,_,_,_,_,_,_,gp⟩:=zx;refine mM (T30 (DC t).BF II VB (Ce (dR0 w)) gp (by decide) ?_);refine wI (by rw[BL (by rfl)];rfl) (zI (by rfl) ?_);obtain⟨b,fo,_,_⟩:=i70 t;have ho:=X.EC 839 fo.o Io Do (by rw[Lf];decide) (by rw[Lf];decide);refine uD (rI II OR o1 l1 v1 λ u ru=>uD (rI II OR o2 l2 v2 λ u2 ⟨t2,e2⟩=>GJ ⟨Ww ho r00,?_⟩));have ru:u=.J0 l:=ru;subst ru e2;exact U3 (QR0 hs yL hk C6 VB (X:=λ _ _=>I6) ⟨O,O⟩) (λ _ _ h=>h) λ _ _ ⟨_,_,_,_,_,h⟩=>V4
structure gR0(o:I7 Fl):Prop where
 ZA:WH (λ f _=>∃e,f=.U1 (.N3 I0) e) λ _ _=>I6
theorem hR0{o:I7 Fl}(h:As o=I0):gR0 o:=⟨vH0 h⟩
theorem iR0(t:ME w)(X:F5 (Q5 t) 5 A N0 J9 O0 G s)(C6:M8 410 A){i:C0}{v:PV}(v1:H4 (vc "script") O0=E0 v)(v2:H4 (vc "source") O0=E0 (.J0 i))(hi:i<I3)(D8:O3 i=.R4){KG:K0->D1->Prop}:
  V0 (Q5 t).M A (jC [.YX (eN "turn" 880 12 16) (eC (eN "range" 880 20 25) [(eI 4 880 26 27)] 880 20 28) m70 [] ⟨880,8,882,28⟩] N0) (λ f s2=>f=.W4/\∃G2 T8,Z2 (Q5 t) (C5 N0 J9) G s G2 s2/\J1 (Q5 t) A G2 s2/\T5 (Q5 t) N0 D0 T8 G2 IN/\H4 (vc "script") T8=E0 v) KG s:=by
 symm;obtain⟨_,_,_,⟨o4,s4⟩,gr,_,_,_,_⟩:=zx;obtain⟨_,_,d3,d4⟩:=vn;have HE:x7 (Q5 t) gF cl 5 i9:=(Uk 5).A6;ext;refine d70 (DC t).BF (DC t).CT (DC t).ON HE (m:=4) (by decide) (by rw[o4,s4];rfl) gr O X DF
  (J:=λ _ σ e=>H4 (vc "script") e=E0 v/\H4 (vc "source") e=E0 (.J0 i)/\i<tJ/\AA i=.R4) ⟨v1,v2,hi,D8⟩ (λ j G1 s1 yH hj zz X1=>e0n4 zz λ j1 j2 j3 j4=>?_) λ G2 s2 T8 I2 g2 Q6 ⟨j1,_⟩=>DP ⟨O,G2,T8,I2,g2,Q6,j1⟩
 have q1:H4 (vc "script") (z5 (vc "turn") (.j0 (.N4 j)) yH)=E0 v:=by rw[WD,u3 d3];exact j1
 have q2:H4 (vc "source") (z5 (vc "turn") (.j0 (.N4 j)) yH)=E0 (.J0 i):=by rw[WD,u3 d4];exact j2
 refine xA (AA0 (wpAny_isTrue_Not ?_));refine wpAny_isTrue_value (WR0 t C6 SB X1.gd X1.er q2 j3 j4 λ s2 I2 g2=>zi ?_);exact DP (DP ⟨O,G1,_,kL λ _ q=>P6,g2,X1.EI I2,q1,q2,j3,j4⟩)
set_option maxHeartbeats 1000000 in
theorem jR0(t:ME w)(C6:M8 420 A)(gd:J1 (Q5 t) A G s)(hn:I3=0)(hm:PB=0){l:C0}{xs:P0 A2}(hs:LZ (Q5 t) l xs)(yL:YC<2^62):
  V0 (Q5 t).M A (W7 (.J0 943) [.J0 l]) (λ v s'=>v=.N3 I0/\∃G',Z2 (Q5 t) F G s G' s'/\J1 (Q5 t) A G' s') (λ _ _=>I6) s:=by
 obtain⟨b,fo,p70,hb⟩:=cR0 t;refine U3 (Gj (DC t).BF fo (n:=419) (F:=F) C6 gd (L1:=.A0 (.Z0 l) .B0) (O0:=.kv (vc "script") (.Z0 l) .B0) (P:=λ p _=>p=.N3 I0) (X:=λ _ _=>I6) ⟨_,_,O,O,O⟩ O λ{A' N0 s0} qL ES g0 er oO=>?_)
  (λ v s' ⟨G',p,st,g',rp,hp⟩=>⟨(by subst hp;exact rp),G',st,g'⟩) λ _ _ ⟨_,_,_,_,_,h⟩=>h
 rw[hb,p70];symm;rw[p70]at ES;change T5 (Q5 t) N0 D0 (.kv (vc "script") (.Z0 l) .B0) G UB0 at er;obtain⟨⟨o1,l1⟩,⟨o2,l2,s2⟩,⟨o3,l3,s3⟩,⟨o4,s4⟩,gr,gmx,gmn,gl,gp⟩:=zx;obtain⟨d1,d2,d3,d4⟩:=vn;have v1:H4 (vc "script") (.kv (vc "script") (.Z0 l) .B0)=E0 (.Z0 l):=by rw[uH,w3 O]
 have X0:F5 (Q5 t) 5 A' N0 J9 (.kv (vc "script") (.Z0 l) .B0) G s0:=⟨bf (by exact i6 O),ES,g0,er⟩;ext;generalize(PV.kv (vc "script") (.Z0 l) .B0)=bA at *;symm;have HE:x7 (Q5 t) gF cl 5 i9:=(Uk 5).A6;have EK:=IF;have yx:=I70 (w:=w);have hmin:=XQ0 (w:=w);have ev:=g70 (DC t).BF P00 EK yx gmx (p1:=⟨878,19,878,22⟩) (p2:=⟨878,19,878,46⟩) O O (DF (G:=G) (B:=Q5 t) (A:=A') (N0:=N0) (O0:=bA) (i:=1) (j:=0) (p:=⟨878,23,878,24⟩))
  (HR0 (DC t).BF P00 EK hmin gmn (p1:=⟨878,26,878,29⟩) (p2:=⟨878,26,878,45⟩) O O (e70 (DC t).BF EK hs yL (p1:=⟨878,30,878,33⟩) (p2:=⟨878,34,878,40⟩) (p3:=⟨878,30,878,41⟩) o1 l1 gl v1) (DF (i:=2) (j:=0) (p:=⟨878,43,878,44⟩)))
 obtain⟨m,Zo,em⟩:∃m:C0,m<=2/\(if(if(2:A2)<(YC:A2)then(2:A2)else(YC:A2))>1 then(if(2:A2)<(YC:A2)then(2:A2)else(YC:A2))else 1)=(m:A2):=by
  by_cases q:(2:A2)<(YC:A2)
  ·rw[w3 q,w3 (by decide)];exact⟨2,by decide,O⟩
  ·rw[u3 q];by_cases q2:(YC:A2)>1
   ·rw[w3 q2];exact⟨YC,by exact ω62 ‹_›,O⟩
   ·rw[u3 q2];exact⟨1,by decide,O⟩
 rw[em]at ev;ext;refine d70 (DC t).BF (DC t).CT (DC t).ON HE (m:=m) (by exact BM ‹_› O) (by rw[o2,s2];rfl) gr O X0 ev
  (J:=λ _ _ e=>H4 (vc "script") e=E0 (.Z0 l)) v1 (λ j G1 s1 yH hj j1 X1=>?_) λ G2 s2 T8 I2 g2 Q6 _=>?_
 ·have q1:H4 (vc "script") (z5 (vc "k") (.j0 (.N4 j)) yH)=E0 (.Z0 l):=by rw[WD,u3 d1];exact j1
  have q2:H4 (vc "k") (z5 (vc "k") (.j0 (.N4 j)) yH)=E0 (.j0 j):=by rw[WD,w3 O];rfl
  refine UR0 (DC t).CT (DC t).ON HE X1 (by rw[o3,s3];rfl) O O (λ _ _ _ _ q=>by contradiction) (fR0 t X1 (bf (by exact i6 O)) hs yL (by exact W6 ‹_› ‹_›) q1 q2) λ G2 s2 p I2 ⟨hp,FM⟩ X2=>?_;subst hp;have q3:H4 (vc "script") (z5 (vc "source") (.J0 PH) (z5 (vc "k") (.j0 (.N4 j)) yH))=E0 (.Z0 l):=by rw[WD,u3 d2];exact q1
  refine U3 (iR0 t X2 (bf (by exact i6 O)) q3 (by rw[WD,w3 O]) (by rw[FM];exact rD _) (by rw[FM,J_,w3 O])) (λ f s3 ⟨hf,G3,mO,S5,g3,nD,j3⟩=>⟨hf,G3,mO,NP S5,g3,nD,j3⟩) λ _ _ h=>h
 ·symm;have X:=nk (G:=G2) (ι:=λ _=>0) (λ _=>0) G2.τ 0;have gn:=iA0 g2;have LV:=c70 t 300;have AS:=QP (k:=40) (st:=yr) (bf (by exact i6 O)) ES gn (eR0 Q6);rw[cT_]at AS;have ta:=hR0 wH0;generalize(jD EB TB 300).vD fT .B0=o at AS ta;ext;refine U3 (AS _ _ ta.ZA) (λ f s3 ⟨G3,fl,S5,g3,rf,⟨e,hf⟩⟩=>?_) λ _ _ ⟨_,_,_,_,_,h⟩=>V4;subst hf;exact⟨G3,_,Z2.w7 hn hm I2 S5 (λ b ⟨j,hj,_⟩=>T3 hj (NG _)) O,g3,rf,.S2 ⟨_,_,O,O⟩⟩
end
section
set_option backward.match.sparseCases true in
theorem Ey{h:O1}{a:H1}:B3 a=match h.objs[a]? with|E0 ⟨_,_,.Yz,_⟩=>H0|o=>o:=O
theorem trunc:∀(n:C0)(h:O1),l8=n->(∃b o,B3 b=E0 o)->∃h':O1,(∀b,C3 b=B3 b)/\∃o,C3 (IB-1)=E0 o:=by
 intro zq;induction zq with
 |i9=>
  rintro h hn ⟨b,o,e⟩;exact T3 (o9 e) (by rw[hn];exact NG _)
 |c9 n ih=>
  intro h hn hx;cases e:B3 n with
  |E0 o=>exact⟨h,λ _=>O,o,by rw[hn];exact e⟩
  |H0=>
   have T7:∀b,(⟨u00,h.life⟩:O1).W5 b=B3 b:=λ b=>by
    by_cases q:b=n
    ·subst q;rw[e,Ey];have:(u00)[b]?=H0:=by rw[XU0];split<;>first|omega|rfl
     rw[J2]
    ·have:(u00)[b]?=h.objs[b]?:=by
      rw[XU0]
      split
      ·rfl
      ·rename_i z;rw[hn]at z;exact(b80 (by rw[hn];exact sS0 (fT0 z) (E9 q))).Y3
     rw[Ey,Ey];rw[J2]
   obtain⟨h',k,l⟩:=ih ⟨u00,h.life⟩ (by simp[hn]) (by obtain⟨b,o,e⟩:=hx;exact⟨b,o,(T7 b).V2 e⟩);exact⟨h',λ b=>(k b).V2 (T7 b),l⟩
def isI(d:bR):I1:=match d with
 |.j0 _=>I0
 |_=>R0
theorem kR0{R:GA0}{d:bR}(h:WShape.jU R d .j0=I0):isI d=I0:=by cases d using bR.W9<;>first|rfl|exact h
theorem lR0{R:GA0}{cl:C1->Q1 H1}{h:O1}{v:K0}{d:bR}{as:P0 H1}(hr:ReadsW R cl h v d as)(hd:isI d=I0):∃i t,v=.j0 i t:=by
 cases d using bR.W9 with
 |j0 i=>exact⟨i,(readsW_int_inv hr).JM λ _ h=>h.1⟩
 |_=>exact T3 hd LG
theorem mR0{R:GA0}{cl:C1->Q1 H1}{h:O1}:∀{ds:P0 bR}{vs:P0 K0}{as:P0 H1},ReadsAllW R cl h vs ds as->Kk R ds .j0=I0->
  ∃xs:P0 A2,Q7=YC/\ZL=YC/\∀(i:C0)(x:A2),xs[i]?=E0 x->∃t,(vs[i]?:Q1 K0)=E0 (K0.j0 x t):=by
 intro zq;induction zq with
 |B0=>
  intro vs as hr _;cases hr;exact⟨[],O,O,λ i x e=>by simp at e⟩
 |A0 d ds ih=>
  intro vs as hr hi;cases hr with
  |A0 r1 r2=>
   unfold Kk at hi;rw[N5]at hi;obtain⟨i,t,O⟩:=lR0 r1 (kR0 hi.1);obtain⟨xs,l1,l2,e⟩:=ih r2 hi.2;refine⟨i::xs,by simp[l1],by simp[l2],λ j x ej=>?_⟩;induction j using ML with
   |i9=>simp at ej;subst ej;exact⟨t,O⟩
   |c9 j=>simp at ej;obtain⟨t',q⟩:=e j x ej;exact⟨t',by simpa using q⟩
noncomputable abbrev rwR:RowW:=A80.row.toRowW
set_option backward.match.sparseCases true in
theorem pre_of{L1:P0 bR}(h:CW0.GO L1=I0):∃ds,L1=[.M1 ds]/\Kk Fe ds .j0=I0/\ZL<=63:=by
 have h:(EU0 Fe L1 [.M1 .j0]&&WTm.holds Fe (.C8 (.eH (.lt (.u0 (.j0 63)) (.Y5 (.TG 0)))) (.u0 (.N3 I0))) {L1:=L1})=I0:=h;rw[N5]at h;obtain⟨h1,h2⟩:=h;cases L1 using c5 with
 |B0=>contradiction
 |A0 d r=>
  have h1:(WShape.jU Fe d (.M1 .j0)&&EU0 Fe r [])=I0:=h1;rw[N5]at h1;cases r using c5 with
  |A0 d2 r2=>cases h1.2
  |B0=>
   obtain⟨h1,_⟩:=h1;have hd:∃ds,d=.M1 ds/\Kk Fe ds .j0=I0:=by
    cases d using bR.W9 with
    |M1 ds=>exact⟨ds,O,by rw[<-I1.ZE (Kk _ _ _)];exact h1⟩
    |_=>exact T3 (show R0=I0 from h1) LG
   obtain⟨ds,O,hi⟩:=hd;refine⟨ds,O,hi,?_⟩;have h2:(match(match(match(match(less? (.j0 63) (.j0 ZL)).Y4 Em with|E0 (.N3 b)=>E0 (Em (!b))|_=>H0)with
    |E0 (.N3 R0)=>E0 (Em R0)
    |E0 (.N3 I0)=>E0 (Em I0)
    |_=>H0)with
    |E0 (.N3 I0)=>I0
    |_=>R0)with|b=>b)=I0:=h2
   have:less? (.j0 63) (.j0 ZL)=E0 (DE ((63:A2)<ZL)):=O;rw[J2]at h2;by_cases q:(63:A2)<ZL
   ·rw[LW q]at h2;contradiction
   ·exact ω62 ‹_›
set_option backward.match.sparseCases true in
theorem nR0(L1:P0 bR):CW0.ln L1 (.N3 I0) L1=I0:=by
 show(I0&&(match(E0 (Em (Bg (.N3 I0) (.N3 I0))):Q1 bR)with|E0 (.N3 I0)=>I0|_=>R0))=I0;rw[same_self];rfl
end
section
variable{w:World}
theorem oR0(w:M4):BW (mN w 3 "law") 943=I0:=by kernel_rfl
def G00:Gh:=⟨SS,λ _=>0,λ _=> .u8,[]⟩
theorem pR0{h:O1}(y:H.YP w h):∃t:ME w,∀b,Mg b=B3 b:=by
 obtain⟨_,tb,_⟩:=yd (w:=w) (c:=35) (z:=31) (TE ..);obtain⟨h',k,l⟩:=trunc _ h O ⟨_,_,y _ _ tb.2⟩;exact⟨⟨h',λ b o e=>(k b).V2 (y b o e),l⟩,k⟩
theorem good0(t:ME w){s:D1}(y:H.YP w W0)(k:∀b,Mg b=E3 b):J1 (Q5 t) XA0 G00 s where
 ty:=⟨λ i hi=>T3 hi (NG _),λ i hi=>T3 hi (NG _),λ p hp=>by contradiction⟩
 inv:=⟨λ i j hi=>T3 hi (NG _),λ i hi=>T3 hi (NG _),λ i _=>O,λ i hi=>T3 hi (NG _),λ a ha=>by contradiction⟩
 eA b o e _ _ _:=(k b).Y3.V2 e
 JG:=⟨Rx y,λ b o e _=>(k b).Y3.V2 e⟩
 fr:=⟨[],O,λ e he=>by contradiction⟩
theorem qR0{h:O1}{a:H1}{m m':C1->Q1 K0}(x:aH a m)(y:aH a m'):m=m':=by
 obtain⟨o,es,ep,e,d,_,f⟩:=x;obtain⟨o',Da,Cc,e',d',_,f'⟩:=y;rw[e]at e';obtain O:=H3 e';rw[d]at d';cases d';exact Tm λ n=>(f n).Y3.V2 (f' n)
theorem rR0:M8 420 XA0:=⟨O,by decide,by decide⟩
theorem sR0(t:ME w){s s':D1}(y:H.YP w W0)(k:∀b,Mg b=E3 b){G':Gh}(g:J1 (Q5 t) XA0 G' s'):OldK W0 T6:=by
 have T7:∀b o,E3 b=E0 o->OL b=E0 o\/(nU0 W0 b/\o={O2:=.H0,L3:=.R5 #[]}/\∃ps,OL b=E0 {O2:=.H0,L3:=.R5 ps}):=λ b o e=>by
  have e2:(Q5 t).hf.W5 b=E0 o:=(k b).V2 e;by_cases hz:b∈mR (·.2)
  ·obtain⟨⟨c,z⟩,hp,O⟩:=ca.mp hz;have tb:=(yd (w:=w) hp).2.1.tW y;have e3:=tb.2;rw[e]at e3;exact .L2 ⟨tb.nU0,H3 e3,gE.1.at hz⟩
  ·by_cases h1:F4=.U0 "frame"
   ·exact .S2 (gE.2 b o e2 (.S2 h1))
   ·by_cases h2:F4=.U0 "traceback"
    ·exact .S2 (gE.2 b o e2 (.L2 h2))
    ·exact .S2 (QB b o e2 hz h1 h2)
 refine⟨λ b o e=>?_,λ b o e=>?_⟩
 ·rcases T7 b o e with q|⟨q1,O,ps,q3⟩
  ·exact .S2 q
  ·exact .L2 (.S2 ⟨q1,O,#[],ps,O,by rw[L4.empty_append];exact q3⟩)
 ·rcases T7 b o e with q|⟨_,_,ps,q3⟩
  ·exact⟨_,q⟩
  ·exact⟨_,q3⟩
set_option tactic.hygienic true in
theorem walk:WalkO H.q H.eR (λ _ _=>lP) H.YP H.lb H.pX [] λ f vs=>W7 f vs:=by
 intro w s₀ M6 mg mb Gr Y a o pm cd tP dV kV ho hd hc hD hm hg L1 K5 as hpre hlay hrd ZW0 Y6;obtain⟨t,k⟩:=pR0 Y;have g0:=good0 t Y k;have e1:mg=mN w 3:=qR0 Gr.T.g ((Kl t).hmg c00 g0.eA);have ea:a=943:=by
  have hm:mg "law"=E0 (.J0 a):=hm;rw[e1,Ce (oR0 w)]at hm;cases hm;rfl
 subst ea;obtain⟨ds,O,hi,hl⟩:=pre_of hpre;cases hrd with
 |A0 r1 r2=>
  cases r2;cases r1 with
  |M1 q1 q2 q3 q4=>
   rename_i l ol vs n as';obtain⟨xs,l1,l2,ht⟩:=mR0 q4 hi;have hnz:l∉(Q5 t).Z:=λ q=>by
    obtain⟨ps,e⟩:=(Rx Y).at q;rw[q1]at e;obtain O:=H3 e;contradiction
   have hs:LZ (Q5 t) l xs:=⟨vs.XE,⟨ol,(k l).V2 q1,q2,n,q3⟩,l1,ht,hnz⟩;refine U3 (jR0 (F:=N2) t rR0 g0 O O hs (by exact ω71 ‹_› ‹_› O)) (λ v s' zz=>vN zz λ hv zz=>f_ zz λ G' st g'=>?_) λ _ _ h=>V4;subst hv;obtain⟨h',tk,es⟩:=Ff;refine⟨.S2 ⟨.N3 I0,.N3 I0,[],O,λ _=>O,.N3 I0,nR0 _,λ _=>⟨vb,λ a ha=>by contradiction⟩⟩,sR0 t Y k g',by rw[es],.of_eq (by rw[es];exact hg)⟩
theorem holds:H.IV0:=H.I8 walk
end
end Mine.Internal
end
theorem PySem.Challenge.cw_ot0048_01_holds : PySem.Challenge.rw_ot0048_01.Holds :=
  Mine.Internal.holds
