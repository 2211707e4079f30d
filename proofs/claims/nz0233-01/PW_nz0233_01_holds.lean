import PyProof.Rows.All
import Wide.All
import OpenK.AllK
import Wide.FinOn
import KE.KNestM
import Lean
import PySem.Challenge.RW_nz0233_01
set_option autoImplicit false
set_option Elab.async false
set_option maxRecDepth 100000
set_option genSizeOf false
set_option genInjectivity false
set_option linter.all false
open PySem PySem.W PyProof.Rows
-- Own work. This section's one local rule on declarations and variable lines writes out the text's short forms ahead of elaboration:
-- 1. two-letter words stand for names of the library (table mab); 2. fail"ab.." stands for the steps of a walk that its letters name (table maa); 3. a plain def or abbrev is noncomputable;
-- 4. positions are taken out of the syntax (a smaller compiled file); 5. the line «def maj:=Nat» lays empty definitions Internal.all.tw.., so that the head keeps no quick twins.
-- It changes no statement: theorem all and the statement's own theorem stand outside the section.
section
namespace Internal
open Lean
def maa:="assumption;apply SB.d2;apply EX.ae rfl;tacticRfl;exact xv rfl rfl;apply EL.d2;apply CA.up;exact SB.iv;exact EL.iv;;exact mx;;exact av;apply EX.bp rfl rfl;apply SS.ex;apply SS.bO;apply SS.bu;apply SB.rt;exact au.add;apply cL rfl;apply ET.bR rfl rfl;apply SS.cF;apply EA.cX;apply EX.bin;apply cH;exact xi;apply ET.mc;exact aq.lt;;apply EX.bX;apply ET.bG;apply SS.rt;exact aq.gW;apply EX.ev;apply EX.ng;apply ET.rE rfl;apply ET.bo;apply EX.oz rfl;apply EX.bi;exact TG.wQ;apply SS.oM rfl;exact EA.iv;apply fF.d2;apply EX.as;apply mn rfl;apply SB.ex;apply SS.gV;apply bD.dG;apply SS.as;apply EO.ap;apply EX.gb;exact au.Kj;apply EX.mP rfl rfl;exact EL.p rfl;apply au.mul;;;apply SS.sG;apply TG.item;apply EX.cm;;apply SS.je;apply bJ.jq;exact rfl;exact fG.add;exact aq.gt;apply ET.not;apply bJ.hG;apply au.fdiv;apply CA.st;apply IT.pI;exact fF.iv;apply au.land;apply xm;exact aq.ge;apply EX.sl;apply SS.ast;apply c;exact b5 h8 h;exact EO.bk;apply EA.eE;apply b;apply au.mod;exact bJ.min;apply rt bM rfl rfl;apply EX.ae c;apply lF.append;exact aq.le;apply SS.my;exact h".splitOn ";"
def mab:=("ah am ap a4 a5 a6 a7 a8 a9 bb bh bk bn bs bS bZ b0 b4 b5 b6 ch ck cp ct cx cy dd dv dx dG d2 d3 d4 eb ec ed ef eh ek em ep et eu ev ew e0 e7 e9 ff fo fp ft fz fA fC fX fY f0 f3 f5 f7 f9 gg gu gz gX hq hv hy hA hB hC hD hJ hM hN hO hT hU h8 h9 ia ic iv i1 i3 jp j1 j2 j3 kb ki kk kq kx kK kP kQ k0 lb lV l3 l6 l7 mc mm mv mx mS mZ m0 m8 na nc ng np nw nT n1 oa ov ow o3 o4 pa pn pq pt pu py p3 p5 p9 qy qD qE qI q5 q6 q7 ra ri ro ru rv rE r0 r3 r4 r5 r6 sk sn sp su sw sx sy sA sB sK sN sV s0 s7 s8 s9 tb tg to tq tz tC t0 uf uj uk ul un uo ur ut ux u0 vB vT v8 wf wl wn wv ww wE wL wO wP wQ wS wT w1 xo xz xD xE xF xL x0 x2 x3 x6 x7 yT y0 y2 y3 y5 y6 zi zl zm zn zs zt zu zv zz z3 z4 z7 z8 z_ At AC AT A7 A9 Bb Bc BT B3 Ce Cg Ch Cj Ck Cl Cm Cn C2 Da Db Do Dq Dx DD DH DM DN DO DQ DT DU DV D0 D6 D8 Ea Ej Ev EQ ER E1 E2 E5 E6 Fa Fd Fe Fk Fp Fu Fv Fw Fy FA FD FH FM FT F1 F2 F5 F6 Gc Go Gr GE GM GS GT GV GX GY GZ G0 G5 Hw Hx HC HD HL HX H1 H2 H3 H4 H5 H6 H9 H_ Ia Ic Id Ie Ii Ij Ik Im Io Iq Ir It Iu Ix Iy Iz IC IK IN IO IP IR I1 Js JL JQ JU JV J1 J2 J3 J6 J_ Ka Kc Kd Ke Kg Kh Ki Kj Km Kr Kv KB KE KF KI KK KL KM KP KS KT K0 K1 K2 K3 K5 K6 K8 Lh Lo Ls Lu Lv Lw Lx Ly Lz LA LB LC LD LE LG LI LJ LL LM".splitOn " ").zip ("length List some Internal Nat Shared wpAny_bind PySem Value le_trans heap none int ref Option prog Int ctorIdx congrArg contains wpAny get? wpAny_pure Bool eq_of_beq UInt8 model natCast_nonneg if_neg list cons bytes Heap toArray Around obj elim lookup builtinLookup_eq_fast names length_append if_pos builtin attr lt_of_lt_of_le mem_singleton get?_push_of_some Addr holding toNat lt_of_le_of_lt le_of_ble_eq_true length_map contains_iff_mem set type Expr le_add_right wpAny_specialOf frame replicate typeLookup_type bool wpAny_of_eq cnt locals decide_eq_true getElem?_eq_some_iff data more ofNat_lt map mem_cons refl new size toks kept mainGlobals pure Str decide_eq_false succ_le_succ nil undef le_refl scope keep free fields or_eq_false_iff beq_eq_false_iff_ne absurd objs mono standAt ofNat add_le_add_left own size_toArray body all le_of_lt Builtin cmp cls get?_update_self same Program le_of_eq take get?_push_size take_of_length_le NameKind call cells all_eq_true SameBut kindOf slot ble_eq_true_of_le mpr length_cons push eval and_eq_true_iff isSubtype_type zero_add cache off checkBuiltinCall nodup_cons Nodup mul_le_mul_left inst live Tactic lt_irrefl toList grow of_decide_eq_true zero_le ClassData Nonempty Array plain Name Result typeLookup Looks builtins head isEmpty_iff ofNat_le pre isEmpty holders tail eq_false_iff globalImplicit ne_of_lt append_assoc and_two_pow_sub_one_eq_mod Add add_sub_cancel_left rest kind bind base not_lt World add_comm starEach add_assoc mem_append typeIs_bytes False wpAny_field frames lt_trans add_sub_cancel sizeLine_eq min_eq_left inl DictEntry slots isSome_iff_exists wpAny_newObj_type inr beq_iff_eq rawInt getD getElem?_eq_getElem map_cons lt_add_of_pos_right IsCell name lt_succ_self false_ne_true length_take Stmt mem_append_right iff Sem FuncData function Operator or_eq_true_iff lt_of_lt_of_eq append_nil length_set default globals getD_eq_getElem?_getD Bytes Unit self mem_append_left operate loose FloorDiv arity drop le_succ_of_le inj signature?_of Model handled Classical String isSome Ext add_right_comm entryFor_of_tree wpAny_callSpecial?_slot add_le_add_right beq_self_eq_true wpAny_isInstance dict error look_buffer Env andThen assign assignEach oct entryFor get?_none_of_le filterMap setIfInBounds swappedStores Obj last Pos tab isCoroutine isGenerator qualname imp builtinsNs wpAny_loadName_local binaryOp Name_function_global argsOk DecidableEq codeAny_call_builtin getElem?_eq_none_iff toInCall wpAny_newFunctionEnv_cells out len emptyDict cell reverse wpAny_call_entry le_of_not_lt take_sublist cond length_replicate rw_nz0233_01 backTo TypeIs True succ ne_of_gt units CmpOp ExceptHandler NotEq sizeLine plainId_quiet eraseIdx le_of_lt_succ congrFun take_append_of_le_length byContradiction release letOwnedTupleGo lay Sublist leftWithCleanup Own DictOf BitAnd update add_le_add eraseIdxIfInBounds isNone_iff_eq_none excBase_ValueError noConfusion specialOf Attribute compareOp take_length Mult attrs findIn wpAny_loadPart ListComp isNone fastTable_eq_tree mem_map_of_mem hideAll_none wpAny_noteFrame_againW wpAny_setField sub_eq_zero_of_le mod_eq_of_lt getElem?_set_self two acc Scope owner cut wpAny_theTreesLotGoes decodersThatHold guards wpAny_lookBehind length_nil le_of_succ_le le_succ lt_succ_of_lt wpAny_holding under_plainId wpAny_attempt lt_size mem_map mem_of_lookup lt_succ_of_le code again unsupported str wpAny_letTemporaryGo evalEach length_drop lookup_relabel_local drop_length one_ne_zero theTreesLotGoes deeper sub not_le keepIn getitemInPython add_lt_add_left execs Const bad Tuple getElem?_take_of_lt Code instObj tup takerIn resolve_left node noteFrame isSubtype IsSliceOf seqIndex? swapsWith rangeSize ForInStep ofNat_inj Challenge wpAny_rule depth keeps blt before Assign markedEach wpAny_release' typeIs_int slot_int_index typeIs map_append plain_reversed_new get idle".splitOn " ")
def mac:Name→Name
 |.str p s=>.str (mac p) ((mab.lookup s).getD s)
 |n=>n
def mam(s:String):Syntax:=mkIdent (mac s.toName)
def mak:List String→List Syntax
 |[]=>[]
 |x::l=>mam x::mak l
def mad(l:List String):Syntax:=match l with
 |k::f=>mkNode (.str `Lean.Parser.Tactic k) (mkAtom k::match f with |[]=>[] |f::r=>[mkNode `Lean.Parser.Term.app #[mam f,mkNullNode (mak r).toArray]]).toArray
 |_=>.missing
def mal:List Char→List Syntax
 |[]=>[]
 |c::l=>mad ((maa.getD (c.toNat-36) "").splitOn " ")::mal l
def maf(x:Syntax):Syntax:=match x with
 |.ident _ r n p=>.ident .none r (mac n) p
 |.node _ k a=>if k==`Lean.Parser.Tactic.fail then mkNullNode (mal (x[1][0].isStrLit?.getD "").toList).toArray else .node .none k a
 |x=>x.setInfo .none
def mah:List String→List Name
 |a::b::r=>(List.range b.toNat!).map (fun i=>(`Internal.all).str ("o_1_"++toString (a.toNat!+i)))++mah r
 |_=>("all.sts_1_51 all.sts_1_84 all.sts_1_102 all.sts_1_120 all.sts_1_138 all.sts_1_156 all.sts_1_181 all.sts_1_250 all.sts_1_298 all.sts_1_338 all.sts_1_555 all.sts_1_559 all.sts_1_662 all.sts_1_876 all.sts_1_880 all.sts_1_983 all.sts_1_1023 all.sts_1_1092 all.sts_1_1186 all.sts_1_1437 all.sts_1_1461 all.sts_1_1663 all.view_1_39 all.env_1_41 Cx.comp Cx.lam Gl.is Dd tc attrL sW Ae Jb._f fD._f sM aM._f Aa CM IX qZ pK uD Ee qS zS zR i4 jJ jI cV iw gr i0 k8 dC fy fU k7 mI hV ir jH gq k6 mH hP mG fT fS mF fR d_ hK fQ gQ dJ dI fP dB b8 iq bN gp cg fx iZ bW gP iY fO dA ez bV mE mD iX mC ip jG kZ dX bM eK gO eJ iW kY ij cY eI mB kX fw iU gm fv ig gN iT kW eH fN iS pF zK fu n6 jF gk d7 j7 mA gj kV jE n4 nZ mz kU pE nY Pj DZ II Kn c9 DX IB zp vK ud HW Ln yW vD rS".splitOn " ").map fun s=>`Internal++s.toName
def mai:=(mah ("43 1 45 2 52 1 54 1 56 9 66 4 71 11 85 1 87 5 93 7 103 1 105 5 111 7 121 1 123 5 129 7 139 1 141 5 147 7 157 1 159 5 165 3 169 10 182 1 184 4 189 4 194 6 201 6 208 6 215 6 222 6 229 6 236 12 251 1 253 4 258 4 263 6 270 6 277 6 284 12 299 1 301 4 306 3 310 6 317 6 324 12 339 1 341 4 346 3 350 6 357 6 364 6 371 6 378 6 385 6 392 6 399 6 406 4 411 6 418 6 425 6 432 6 439 6 446 6 453 12 467 4 472 3 476 6 483 6 490 6 497 6 504 6 511 6 518 6 525 6 532 4 537 6 544 5 556 1 560 1 562 4 567 3 571 6 578 6 585 6 592 6 599 6 606 6 613 6 620 6 627 6 634 6 641 6 648 12 663 1 665 4 670 3 674 6 681 6 688 6 695 6 702 6 709 6 716 6 723 6 730 6 737 6 744 6 751 6 758 6 765 6 772 12 786 4 791 3 795 6 802 6 809 6 816 6 823 6 830 6 837 6 844 6 851 6 858 6 865 5 877 1 881 1 883 4 888 3 892 6 899 6 906 6 913 6 920 6 927 6 934 6 941 6 948 6 955 6 962 6 969 12 984 1 986 1 988 6 995 6 1002 6 1009 6 1016 5 1024 1 1026 4 1031 4 1036 6 1043 6 1050 6 1057 6 1064 6 1071 6 1078 12 1093 1 1095 4 1100 3 1104 6 1111 6 1118 4 1123 6 1130 6 1137 6 1144 6 1151 6 1158 6 1165 6 1172 12 1187 1 1189 4 1194 3 1198 6 1205 6 1212 6 1219 7 1227 6 1234 6 1241 6 1248 6 1255 6 1262 6 1269 6 1276 6 1283 6 1290 6 1297 6 1304 6 1311 6 1318 6 1325 6 1332 6 1339 10 1351 4 1356 3 1360 6 1367 6 1374 6 1381 7 1389 6 1396 6 1403 6 1410 6 1417 6 1424 6 1438 1 1440 1 1442 4 1447 6 1454 5 1462 1 1464 4 1469 4 1474 6 1481 6 1488 6 1495 6 1502 6 1509 6 1516 6 1523 6 1530 6 1537 6 1544 6 1551 6 1558 12 1572 4 1577 4 1582 6 1589 6 1596 6 1603 6 1610 6 1617 6 1624 6 1631 6 1638 6 1645 6 1652 5 1664 1 1666 1 1668 6 1675 6 1682 6 1689 6 1696 6 1703 6 1710 4 1715 6 1722 3".splitOn " ")++[`PySem.Challenge.pw_nz0233_01,`Tactic.sF]).map fun n=>Name.str `all ("tw"++toString n.hash)
def mag:Macro:=fun s=>if s.getPos?.isNone then Macro.throwUnsupported else
 let t:=s.rewriteBottomUp maf
 return if t[1].getKind==`Lean.Parser.Command.definition||t[1].getKind==`Lean.Parser.Command.abbrev then if t[1][1][0].getId==`maj then mkNullNode (mai.map fun n=>t.rewriteBottomUp fun x=>if x.isIdent&&x.getId==`maj then mkIdent n else x).toArray else t.setArg 0 (t[0].setArg 4 (mkNullNode #[mkNode `Lean.Parser.Command.noncomputable #[mkAtom "noncomputable"]])) else t
end Internal
local macro_rules (kind:=Lean.Parser.Command.variable)|s=>Internal.mag s
local macro_rules (kind:=Lean.Parser.Command.declaration)|s=>Internal.mag s
namespace Internal
def maj:=Nat
end Internal
section
namespace Internal
theorem Hb{p1 p2 a:Prop}{R:Prop}(h:p1/\p2/\a)(f:p1->p2->a->R):R:=by obtain⟨h1,h2,h3⟩:=h;exact f h1 h2 h3
theorem xN{p1 p2 a b:Prop}{R:Prop}(h:p1/\p2/\a/\b)(f:p1->p2->a->b->R):R:=by obtain⟨h1,h2,h3,h4⟩:=h;exact f h1 h2 h3 h4
theorem aN{b:Type}{p1:b->Prop}{R:Prop}(h:∃a,p1 a)(f:∀a,p1 a->R):R:=by obtain⟨a,h1⟩:=h;exact f a h1
theorem ar{b:Type}{p1 p2:b->Prop}{R:Prop}(h:∃a,p1 a/\p2 a)(f:∀a,p1 a->p2 a->R):R:=by obtain⟨a,h1,h2⟩:=h;exact f a h1 h2
theorem lI{c:Type}{p1 p2 b:c->Prop}{R:Prop}(h:∃a,p1 a/\p2 a/\b a)(f:∀a,p1 a->p2 a->b a->R):R:=by obtain⟨a,h1,h2,h3⟩:=h;exact f a h1 h2 h3
theorem EF{d:Type}{p1 p2 b c:d->Prop}{R:Prop}(h:∃a,p1 a/\p2 a/\b a/\c a)(f:∀a,p1 a->p2 a->b a->c a->R):R:=by obtain⟨a,h1,h2,h3,h4⟩:=h;exact f a h1 h2 h3 h4
theorem f_{c:Type}{d:Type}{p1:c->d->Prop}{R:Prop}(h:∃a,∃b,p1 a b)(f:∀a b,p1 a b->R):R:=by obtain⟨a,b,h1⟩:=h;exact f a b h1
theorem aO{c:Type}{d:Type}{p1 p2:c->d->Prop}{R:Prop}(h:∃a,∃b,p1 a b/\p2 a b)(f:∀a b,p1 a b->p2 a b->R):R:=by obtain⟨a,b,h1,h2⟩:=h;exact f a b h1 h2
theorem dQ{d:Type}{e:Type}{p1 p2 c:d->e->Prop}{R:Prop}(h:∃a,∃b,p1 a b/\p2 a b/\c a b)(f:∀a b,p1 a b->p2 a b->c a b->R):R:=by obtain⟨a,b,h1,h2,h3⟩:=h;exact f a b h1 h2 h3
theorem iy{e:Type}{g:Type}{p1 p2 c d:e->g->Prop}{R:Prop}(h:∃a,∃b,p1 a b/\p2 a b/\c a b/\d a b)(f:∀a b,p1 a b->p2 a b->c a b->d a b->R):R:=by obtain⟨a,b,h1,h2,h3,h4⟩:=h;exact f a b h1 h2 h3 h4
theorem tF{g:Type}{i:Type}{p1 p2 c d e:g->i->Prop}{R:Prop}(h:∃a,∃b,p1 a b/\p2 a b/\c a b/\d a b/\e a b)(f:∀a b,p1 a b->p2 a b->c a b->d a b->e a b->R):R:=by obtain⟨a,b,h1,h2,h3,h4,h5⟩:=h;exact f a b h1 h2 h3 h4 h5
theorem jn{d:Type}{e:Type}{g:Type}{p1:d->e->g->Prop}{R:Prop}(h:∃a,∃b,∃c,p1 a b c)(f:∀a b c,p1 a b c->R):R:=by obtain⟨a,b,c,h1⟩:=h;exact f a b c h1
theorem ED{d:Type}{e:Type}{g:Type}{p1 p2:d->e->g->Prop}{R:Prop}(h:∃a,∃b,∃c,p1 a b c/\p2 a b c)(f:∀a b c,p1 a b c->p2 a b c->R):R:=by obtain⟨a,b,c,h1,h2⟩:=h;exact f a b c h1 h2
theorem rL{e:Type}{g:Type}{i:Type}{p1 p2 d:e->g->i->Prop}{R:Prop}(h:∃a,∃b,∃c,p1 a b c/\p2 a b c/\d a b c)(f:∀a b c,p1 a b c->p2 a b c->d a b c->R):R:=by obtain⟨a,b,c,h1,h2,h3⟩:=h;exact f a b c h1 h2 h3
theorem wb{g:Type}{i:Type}{j:Type}{p1 p2 d e:g->i->j->Prop}{R:Prop}(h:∃a,∃b,∃c,p1 a b c/\p2 a b c/\d a b c/\e a b c)(f:∀a b c,p1 a b c->p2 a b c->d a b c->e a b c->R):R:=by obtain⟨a,b,c,h1,h2,h3,h4⟩:=h;exact f a b c h1 h2 h3 h4
theorem tE{i:Type}{j:Type}{k:Type}{p1 p2 d e g:i->j->k->Prop}{R:Prop}(h:∃a,∃b,∃c,p1 a b c/\p2 a b c/\d a b c/\e a b c/\g a b c)(f:∀a b c,p1 a b c->p2 a b c->d a b c->e a b c->g a b c->R):R:=by obtain⟨a,b,c,h1,h2,h3,h4,h5⟩:=h;exact f a b c h1 h2 h3 h4 h5
theorem Ha{j:Type}{k:Type}{l:Type}{p1 p2 d e g i:j->k->l->Prop}{R:Prop}(h:∃a,∃b,∃c,p1 a b c/\p2 a b c/\d a b c/\e a b c/\g a b c/\i a b c)(f:∀a b c,p1 a b c->p2 a b c->d a b c->e a b c->g a b c->i a b c->R):R:=by obtain⟨a,b,c,h1,h2,h3,h4,h5,h6⟩:=h;exact f a b c h1 h2 h3 h4 h5 h6
theorem rK{d:Type}{e:Type}{g:Type}{i:Type}{p1:d->e->g->i->Prop}{R:Prop}(h:∃a,∃b,∃c,∃Q,p1 a b c Q)(f:∀a b c Q,p1 a b c Q->R):R:=by obtain⟨a,b,c,Q,h1⟩:=h;exact f a b c Q h1
theorem KG{e:Type}{g:Type}{i:Type}{j:Type}{p1 p2 d:e->g->i->j->Prop}{R:Prop}(h:∃a,∃b,∃c,∃Q,p1 a b c Q/\p2 a b c Q/\d a b c Q)(f:∀a b c Q,p1 a b c Q->p2 a b c Q->d a b c Q->R):R:=by obtain⟨a,b,c,Q,h1,h2,h3⟩:=h;exact f a b c Q h1 h2 h3
theorem xM{g:Type}{i:Type}{j:Type}{k:Type}{p1 p2 d e:g->i->j->k->Prop}{R:Prop}(h:∃a,∃b,∃c,∃Q,p1 a b c Q/\p2 a b c Q/\d a b c Q/\e a b c Q)(f:∀a b c Q,p1 a b c Q->p2 a b c Q->d a b c Q->e a b c Q->R):R:=by obtain⟨a,b,c,Q,h1,h2,h3,h4⟩:=h;exact f a b c Q h1 h2 h3 h4
theorem ix{p1 p2 a:Prop}(h1:p1)(h2:p2)(h3:a):p1/\p2/\a:=⟨h1,h2,h3⟩
theorem mN{p1 p2 a b:Prop}(h1:p1)(h2:p2)(h3:a)(h4:b):p1/\p2/\a/\b:=⟨h1,h2,h3,h4⟩
theorem aR{b:Type}{p1 p2:b->Prop}(a:b)(h1:p1 a)(h2:p2 a):∃a,p1 a/\p2 a:=⟨a,h1,h2⟩
theorem mM{b:Type}{p1 p2 c:b->Prop}(a:b)(h1:p1 a)(h2:p2 a)(h3:c a):∃a,p1 a/\p2 a/\c a:=⟨a,h1,h2,h3⟩
theorem EC{b:Type}{p1 p2 c d:b->Prop}(a:b)(h1:p1 a)(h2:p2 a)(h3:c a)(h4:d a):∃a,p1 a/\p2 a/\c a/\d a:=⟨a,h1,h2,h3,h4⟩
theorem xK{c:Type}{d:Type}{p1:c->d->Prop}(a:c)(b:d)(h1:p1 a b):∃a,∃b,p1 a b:=⟨a,b,h1⟩
theorem gZ{c:Type}{d:Type}{p1 p2:c->d->Prop}(a:c)(b:d)(h1:p1 a b)(h2:p2 a b):∃a,∃b,p1 a b/\p2 a b:=⟨a,b,h1,h2⟩
theorem eN{c:Type}{d:Type}{p1 p2 e:c->d->Prop}(a:c)(b:d)(h1:p1 a b)(h2:p2 a b)(h3:e a b):∃a,∃b,p1 a b/\p2 a b/\e a b:=⟨a,b,h1,h2,h3⟩
theorem nj{c:Type}{d:Type}{p1 p2 e f:c->d->Prop}(a:c)(b:d)(h1:p1 a b)(h2:p2 a b)(h3:e a b)(h4:f a b):∃a,∃b,p1 a b/\p2 a b/\e a b/\f a b:=⟨a,b,h1,h2,h3,h4⟩
theorem KD{d:Type}{e:Type}{f:Type}{p1:d->e->f->Prop}(a:d)(b:e)(c:f)(h1:p1 a b c):∃a,∃b,∃c,p1 a b c:=⟨a,b,c,h1⟩
theorem KC{d:Type}{e:Type}{f:Type}{p1 p2:d->e->f->Prop}(a:d)(b:e)(c:f)(h1:p1 a b c)(h2:p2 a b c):∃a,∃b,∃c,p1 a b c/\p2 a b c:=⟨a,b,c,h1,h2⟩
theorem G_{d:Type}{e:Type}{f:Type}{p1 p2 g:d->e->f->Prop}(a:d)(b:e)(c:f)(h1:p1 a b c)(h2:p2 a b c)(h3:g a b c):∃a,∃b,∃c,p1 a b c/\p2 a b c/\g a b c:=⟨a,b,c,h1,h2,h3⟩
theorem xJ{d:Type}{e:Type}{f:Type}{p1 p2 g h:d->e->f->Prop}(a:d)(b:e)(c:f)(h1:p1 a b c)(h2:p2 a b c)(h3:g a b c)(h4:h a b c):∃a,∃b,∃c,p1 a b c/\p2 a b c/\g a b c/\h a b c:=⟨a,b,c,h1,h2,h3,h4⟩
theorem EB{d:Type}{e:Type}{f:Type}{p1 p2 g h i j:d->e->f->Prop}(a:d)(b:e)(c:f)(h1:p1 a b c)(h2:p2 a b c)(h3:g a b c)(h4:h a b c)(h5:i a b c)(h6:j a b c):∃a,∃b,∃c,p1 a b c/\p2 a b c/\g a b c/\h a b c/\i a b c/\j a b c:=⟨a,b,c,h1,h2,h3,h4,h5,h6⟩
theorem Ez{d:Type}{e:Type}{f:Type}{g:Type}{p1:d->e->f->g->Prop}(a:d)(b:e)(c:f)(Q:g)(h1:p1 a b c Q):∃a,∃b,∃c,∃Q,p1 a b c Q:=⟨a,b,c,Q,h1⟩
theorem G9{d:Type}{e:Type}{f:Type}{g:Type}{p1 p2 h:d->e->f->g->Prop}(a:d)(b:e)(c:f)(Q:g)(h1:p1 a b c Q)(h2:p2 a b c Q)(h3:h a b c Q):∃a,∃b,∃c,∃Q,p1 a b c Q/\p2 a b c Q/\h a b c Q:=⟨a,b,c,Q,h1,h2,h3⟩
theorem KA{d:Type}{e:Type}{f:Type}{g:Type}{p1 p2 h i j:d->e->f->g->Prop}(a:d)(b:e)(c:f)(Q:g)(h1:p1 a b c Q)(h2:p2 a b c Q)(h3:h a b c Q)(h4:i a b c Q)(h5:j a b c Q):∃a,∃b,∃c,∃Q,p1 a b c Q/\p2 a b c Q/\h a b c Q/\i a b c Q/\j a b c Q:=⟨a,b,c,Q,h1,h2,h3,h4,h5⟩
theorem Ey{d:Type}{f:Type}{g:Type}{h:Type}{i:Type}{p1 p2 j k:d->f->g->h->i->Prop}(a:d)(b:f)(c:g)(Q:h)(e:i)(h1:p1 a b c Q e)(h2:p2 a b c Q e)(h3:j a b c Q e)(h4:k a b c Q e):∃a,∃b,∃c,∃Q,∃e,p1 a b c Q e/\p2 a b c Q e/\j a b c Q e/\k a b c Q e:=⟨a,b,c,Q,e,h1,h2,h3,h4⟩
theorem Kz{d:Type}{f:Type}{g:Type}{h:Type}{i:Type}{p1 p2 j k l:d->f->g->h->i->Prop}(a:d)(b:f)(c:g)(Q:h)(e:i)(h1:p1 a b c Q e)(h2:p2 a b c Q e)(h3:j a b c Q e)(h4:k a b c Q e)(h5:l a b c Q e):∃a,∃b,∃c,∃Q,∃e,p1 a b c Q e/\p2 a b c Q e/\j a b c Q e/\k a b c Q e/\l a b c Q e:=⟨a,b,c,Q,e,h1,h2,h3,h4,h5⟩
theorem dE{α:Type}{x:α}{P:Prop}(h:bk=ap x):P:=nomatch h
theorem oP{α:Type}{x:α}{P:Prop}(h:ap x=bk):P:=nomatch h
theorem mj{P:Prop}(h:true=false):P:=nomatch h
theorem dP{P:Prop}(h:false=true):P:=nomatch h
theorem NZ{α:Type}{x:α}{l:am α}{P:Prop}(h:x::l=[]):P:=nomatch h
theorem bC{α:Type}{x:α}{P:Prop}(h:x∈([]:am α)):P:=(am.not_mem_nil h).ef
theorem av{m n:a5}(h:a5.ble m n=true:=by rfl):m<=n:=a5.ft h
theorem iD{α:Type}{a b:α}(f:α->a5)(h:a5.beq (f a) (f b)=false:=by rfl):a≠b:=λz=>ct.HD ((a5.beq_refl (f a)).symm.trans ((b5 (λx=>a5.beq (f a) (f x)) z).trans h))
theorem aD{G:Prop}(h:∀P:Prop,(G->P)->P):G:=h G id
@[elab_as_elim]theorem ab{α:Type}{a b:α}{p:α->Prop}(h:a=b)(z:p b):p a:=h▸z
@[elab_as_elim]theorem lG{α:Type}{a b:α}{p:α->Prop}(h:a=b)(z:p a):p b:=h▸z
theorem cK{A:Type} [ru A]{q:A->Prop}(h:q (z7.epsilon λx=>¬q x))(x:A):q x:=z7.Gr λz=>z7.epsilon_spec (p:=λx=>¬q x) ⟨x,z⟩ h
section
variable{A B C D L F G H be J K ad M N O P E R S T ii V W X Y Z A1 B1 C1 D1:Type}
abbrev KH(p:A->Prop)(x:A):Prop:=p x
abbrev EH(p:A->B->Prop)(x:A×B):Prop:=KH (p x.1) x.2
abbrev Hd(p:A->B->C->Prop)(x:A×B×C):Prop:=EH (p x.1) x.2
abbrev EG(p:A->B->C->D->Prop)(x:A×B×C×D):Prop:=Hd (p x.1) x.2
abbrev xO(p:A->B->C->D->L->Prop)(x:A×B×C×D×L):Prop:=EG (p x.1) x.2
abbrev tH(p:A->B->C->D->L->F->Prop)(x:A×B×C×D×L×F):Prop:=xO (p x.1) x.2
abbrev tG(p:A->B->C->D->L->F->G->Prop)(x:A×B×C×D×L×F×G):Prop:=tH (p x.1) x.2
abbrev wc(p:A->B->C->D->L->F->G->H->Prop)(x:A×B×C×D×L×F×G×H):Prop:=tG (p x.1) x.2
abbrev nk(p:A->B->C->D->L->F->G->H->be->Prop)(x:A×B×C×D×L×F×G×H×be):Prop:=wc (p x.1) x.2
abbrev kD(p:A->B->C->D->L->F->G->H->be->J->Prop)(x:A×B×C×D×L×F×G×H×be×J):Prop:=nk (p x.1) x.2
abbrev Dy(p:A->B->C->D->L->F->G->H->be->J->K->Prop)(x:A×B×C×D×L×F×G×H×be×J×K):Prop:=kD (p x.1) x.2
abbrev ve(p:A->B->C->D->L->F->G->H->be->J->K->ad->Prop)(x:A×B×C×D×L×F×G×H×be×J×K×ad):Prop:=Dy (p x.1) x.2
abbrev kC(p:A->B->C->D->L->F->G->H->be->J->K->ad->M->Prop)(x:A×B×C×D×L×F×G×H×be×J×K×ad×M):Prop:=ve (p x.1) x.2
abbrev vd(p:A->B->C->D->L->F->G->H->be->J->K->ad->M->N->Prop)(x:A×B×C×D×L×F×G×H×be×J×K×ad×M×N):Prop:=kC (p x.1) x.2
abbrev rM(p:A->B->C->D->L->F->G->H->be->J->K->ad->M->N->O->Prop)(x:A×B×C×D×L×F×G×H×be×J×K×ad×M×N×O):Prop:=vd (p x.1) x.2
abbrev Hm(p:A->B->C->D->L->F->G->H->be->J->K->ad->M->N->O->P->Prop)(x:A×B×C×D×L×F×G×H×be×J×K×ad×M×N×O×P):Prop:=rM (p x.1) x.2
abbrev Dw(p:A->B->C->D->L->F->G->H->be->J->K->ad->M->N->O->P->E->Prop)(x:A×B×C×D×L×F×G×H×be×J×K×ad×M×N×O×P×E):Prop:=Hm (p x.1) x.2
abbrev xQ(p:A->B->C->D->L->F->G->H->be->J->K->ad->M->N->O->P->E->R->Prop)(x:A×B×C×D×L×F×G×H×be×J×K×ad×M×N×O×P×E×R):Prop:=Dw (p x.1) x.2
abbrev xP(p:A->B->C->D->L->F->G->H->be->J->K->ad->M->N->O->P->E->R->S->Prop)(x:A×B×C×D×L×F×G×H×be×J×K×ad×M×N×O×P×E×R×S):Prop:=xQ (p x.1) x.2
abbrev Hl(p:A->B->C->D->L->F->G->H->be->J->K->ad->M->N->O->P->E->R->S->T->Prop)(x:A×B×C×D×L×F×G×H×be×J×K×ad×M×N×O×P×E×R×S×T):Prop:=xP (p x.1) x.2
abbrev Dv(p:A->B->C->D->L->F->G->H->be->J->K->ad->M->N->O->P->E->R->S->T->ii->Prop)(x:A×B×C×D×L×F×G×H×be×J×K×ad×M×N×O×P×E×R×S×T×ii):Prop:=Hl (p x.1) x.2
abbrev Hk(p:A->B->C->D->L->F->G->H->be->J->K->ad->M->N->O->P->E->R->S->T->ii->V->Prop)(x:A×B×C×D×L×F×G×H×be×J×K×ad×M×N×O×P×E×R×S×T×ii×V):Prop:=Dv (p x.1) x.2
abbrev Hj(p:A->B->C->D->L->F->G->H->be->J->K->ad->M->N->O->P->E->R->S->T->ii->V->W->Prop)(x:A×B×C×D×L×F×G×H×be×J×K×ad×M×N×O×P×E×R×S×T×ii×V×W):Prop:=Hk (p x.1) x.2
abbrev Hi(p:A->B->C->D->L->F->G->H->be->J->K->ad->M->N->O->P->E->R->S->T->ii->V->W->X->Prop)(x:A×B×C×D×L×F×G×H×be×J×K×ad×M×N×O×P×E×R×S×T×ii×V×W×X):Prop:=Hj (p x.1) x.2
abbrev Hh(p:A->B->C->D->L->F->G->H->be->J->K->ad->M->N->O->P->E->R->S->T->ii->V->W->X->Y->Prop)(x:A×B×C×D×L×F×G×H×be×J×K×ad×M×N×O×P×E×R×S×T×ii×V×W×X×Y):Prop:=Hi (p x.1) x.2
abbrev Du(p:A->B->C->D->L->F->G->H->be->J->K->ad->M->N->O->P->E->R->S->T->ii->V->W->X->Y->Z->Prop)(x:A×B×C×D×L×F×G×H×be×J×K×ad×M×N×O×P×E×R×S×T×ii×V×W×X×Y×Z):Prop:=Hh (p x.1) x.2
abbrev Hg(p:A->B->C->D->L->F->G->H->be->J->K->ad->M->N->O->P->E->R->S->T->ii->V->W->X->Y->Z->A1->Prop)(x:A×B×C×D×L×F×G×H×be×J×K×ad×M×N×O×P×E×R×S×T×ii×V×W×X×Y×Z×A1):Prop:=Du (p x.1) x.2
abbrev Hf(p:A->B->C->D->L->F->G->H->be->J->K->ad->M->N->O->P->E->R->S->T->ii->V->W->X->Y->Z->A1->B1->Prop)(x:A×B×C×D×L×F×G×H×be×J×K×ad×M×N×O×P×E×R×S×T×ii×V×W×X×Y×Z×A1×B1):Prop:=Hg (p x.1) x.2
abbrev He(p:A->B->C->D->L->F->G->H->be->J->K->ad->M->N->O->P->E->R->S->T->ii->V->W->X->Y->Z->A1->B1->C1->Prop)(x:A×B×C×D×L×F×G×H×be×J×K×ad×M×N×O×P×E×R×S×T×ii×V×W×X×Y×Z×A1×B1×C1):Prop:=Hf (p x.1) x.2
abbrev Hc(p:A->B->C->D->L->F->G->H->be->J->K->ad->M->N->O->P->E->R->S->T->ii->V->W->X->Y->Z->A1->B1->C1->D1->Prop)(x:A×B×C×D×L×F×G×H×be×J×K×ad×M×N×O×P×E×R×S×T×ii×V×W×X×Y×Z×A1×B1×C1×D1):Prop:=He (p x.1) x.2
end
instance:ru Drawn:=⟨{}⟩
instance:ru a6:=⟨{}⟩
instance:ru ec:=⟨{}⟩
instance:ru tq:=⟨⟨λZ Z=>0,by constructor<;>first |exact yT |exact true |skip⟩⟩
instance:ru z3:=⟨⟨λZ=>yT,yT,z7.choice inferInstance⟩⟩
theorem bf{α:Type}(f:α->a5){a b:α}{P:Prop}(h:a=b)(Q:(f a).beq (f b)=false):P:=a5.ne_of_beq_eq_false Q (b5 f h) |>.ef
theorem NY{b α:Type}{e:b}{a:α}{P:Prop}(h:Except.B3 e=Except.ok a):P:=nomatch h
theorem NX{b α:Type}{e:b}{a:α}{P:Prop}(h:Except.ok a=Except.B3 e):P:=nomatch h
end Internal
end
section
open Sem (wp)
namespace Internal
def pk:KM->ct
 | .eu id _=>l7.y3.Iy.b6 id
 |_=>false
def pY(l:am (KM×Dx)):Prop:=∀x,x∈l->pk x.1=false
theorem pY.d2{c:KM}{p:Dx}{l:am (KM×Dx)}(h:pk c=false)(x:pY l):pY ((c,p)::l):=λy m=>by
 rcases am.hD.mp m with rfl |m
 ·exact h
 ·exact x y m
structure ch{α:Type}(M:z3)(A:ec)(t:xE α)(E:α->a6->Prop)(L:a9->a6->Prop)(s:a6):Prop where
 go:∀(Γ:a8.Ctx) (p:Dx),Γ.In A->pk Γ.J1=false->pY Γ.below->wp M Γ t (λa _ s'=>E a s') (λe _ s'=>L e s') p s
structure az(M:z3)(A:ec)(c:KM)(R:r3->a6->Prop)(s:a6):Prop where
 go:∀(Γ:a8.Ctx) (p:Dx),Γ.J1=c->Γ.Below A->pY Γ.below->wpCode M Γ R p s
section
variable{α β:Type}{M:z3}{A:ec}{L:a9->a6->Prop}{s:a6}
theorem cl{t:xE α}{E:α->a6->Prop}(h:a8.ch M A t E L s):ch M A t E L s:=⟨λa p b Z Z=>h a p b⟩
theorem L9{c:KM}{R:r3->a6->Prop}(h:a8.codeAny M A c R s):az M A c R s:=⟨λa p e b Z=>h a p e b⟩
theorem af{a:α}{E:α->a6->Prop}(h:E a s):ch M A (h8 a) E L s:=cl (a8.cp h)
theorem aw{t:xE α}{E b:α->a6->Prop}{c:a9->a6->Prop}(h:ch M A t E L s)(f:∀a s,E a s->b a s)(hE:∀e s,L e s->c e s):ch M A t b c s:=
 ⟨λd p g h1 h2=>xE.wp_mono M d t (λa Z s=>f a s) (λe Z s=>hE e s) p s (h.go d p g h1 h2)⟩
theorem aa{m:xE α}{f:α->xE β}{E:β->a6->Prop}(h:ch M A m (λa s'=>ch M A (f a) E L s') L s):ch M A (m>>=f) E L s:=⟨λb p c h1 h2=>by
 rw[xE.wp_bind'];exact xE.wp_mono M b m (λa p' s' h'=>h'.go b p' c h1 h2) (λZ Z Z h'=>h') p s (h.go b p c h1 h2)⟩
theorem aX{m:xE α}{k:a9->xE y5}{E:α->a6->Prop}(h:ch M A m E (λe s'=>ch M A (k e) (λZ c=>L e c) L s') s):ch M A (m.onRaise k) E L s:=⟨λa p b h1 h2=>by
 rw[xE.wp_onRaise];exact xE.wp_mono M a m (λZ Z Z h'=>h') (λe p' s' h'=>h'.go a p' b h1 h2) p s (h.go a p b h1 h2)⟩
theorem xw{m:xE α}{k:a9->xE α}{E:α->a6->Prop}(h:ch M A m E (λe s'=>ch M A (k e) E L s') s):ch M A (tryCatch m k) E L s:=⟨λa p b h1 h2=>by
 rw[xE.wp_tryCatch'];exact xE.wp_mono M a m (λZ Z Z h'=>h') (λe p' s' h'=>h'.go a p' b h1 h2) p s (h.go a p b h1 h2)⟩
theorem iC{m:xE α}{E:Except a9 α->a6->Prop}(h:ch M A m (λa=>E (.ok a)) (λe=>E (.B3 e)) s):ch M A m.attempt E L s:=⟨λb p c h1 h2=>by
 rw[xE.wp_attempt];exact h.go b p c h1 h2⟩
theorem ak{vs:am a9}{m:xE α}{E:α->a6->Prop}(h:ch M A m E L s):ch M A (ff vs m) E L s:=⟨λa p b h1 h2=>by
 rw[xE.wp_holding];exact h.go a p b h1 h2⟩
theorem mL{vs:am a9}{m:xE a9}{E:a9->a6->Prop}(h:ch M A m E L s):ch M A (zl vs m) E L s:=⟨λa p b h1 h2=>by
 rw[xE.wp_operate];exact h.go a p b h1 h2⟩
theorem cI{a:z8}{E:y5->a6->Prop}(h:E () s):ch M A (rule a) E L s:=cl (a8.Lv h)
theorem ax{bv:Dx}{E:y5->a6->Prop}(h:E () s):ch M A (kK bv) E L s:=cl (a8.wpAny_standAt h)
theorem kB{E:y5->a6->Prop}(h:E () s):ch M A point E L s:=cl (a8.wpAny_point h)
theorem cJ{a:e9}{o:Do}{E:Do->a6->Prop}(b:s.bh.ck a=ap o)(h:E o s):ch M A (load a) E L s:=cl (a8.wpAny_load b h)
theorem aG{t:xE α}{a:α}{E:α->a6->Prop}(e:t=h8 a)(h:E a s):ch M A t E L s:=cl (a8.gu e h)
theorem cz{c:KM}{R a:r3->a6->Prop}(h:az M A c R s)(b:∀r s,R r s->a r s):az M A c a s:=⟨λd p e f h2=>wpCode_mono b (h.go d p e f h2)⟩
theorem xx{c:KM}{R:r3->a6->Prop}(h:az M A.in1 c R s):az M A c R s:=
 ⟨λb p d a h2=>h.go b p d ⟨a.1,a.2.1,a.2.2.1,a.2.2.2.1,a5.zu a.2.2.2.2⟩ h2⟩
theorem jP{c:KM}{h:bS a9}{E:Flow->a6->Prop}(a:az M (A.mark h) c (λr s'=>match r with | .ok f=>E f s' | .B3 e=>L e s') s)(b:h≠ap byPass):ch M A (run c h) E L s:=
 ⟨λg p d h1 h2=>by rw[xE.wp_run];exact a.go _ p rfl (d.enter c h p b) (.d2 h1 h2)⟩
theorem mK{c:KM}{E:a9->a6->Prop}(a:az M A c (λr s'=>match r with | .ok (.ret v)=>E v s' | .ok _=>uk | .B3 e=>L e s') s):ch M A (runValue c) E L s:=
 ⟨λd p b h1 h2=>by rw[xE.wp_runValue];exact a.go _ p rfl (b.enter c bk p (by intro x;cases x)) (.d2 h1 h2)⟩
theorem aT{f:a9}{bv:am a9}{a:am (h9×a9)}{E:a9->a6->Prop}(b:az M A (.ng f ⟨bv,a⟩) (λr s'=>match r with | .ok (.ret v)=>E v s' | .ok _=>uk | .B3 e=>L e s') s):ch M A (ng f bv a) E L s:=mK b
theorem aI{c:KM}{R:r3->a6->Prop}(hd:pk c=false)
  (h:ch M (A.under c) (M.den c) (λb s'=>match b with | .done f=>R (.ok f) s' | .J2 a=>a.quiet=true/\az M A a R s') (λe s'=>R (.B3 e) s') s):az M A c R s:=⟨λd p g i h2=>by
 rw[wpCode_iff_wp,g];refine xE.wp_mono M d _ (λb p' s' h'=>?_) (λZ Z Z h'=>h') p s (h.go d p (g▸i.in) (g▸hd) h2);cases b with
 |done f=>exact h'
 |J2 a=>exact⟨h'.1,h'.2.go (d.goto a) p' rfl (i.goto a) h2⟩⟩
theorem jz{c:KM}{R:r3->a6->Prop}(hd:pk c=false)(d:c.quiet=true)(be:a5->a6->Prop)
  (g:∀n s,be n s->ch M (A.under c) (M.den c) (λa s'=>match a with | .done f=>R (.ok f) s' | .J2 b=>b=c/\∃m,m<n/\be m s') (λe s'=>R (.B3 e) s') s)
  (n:a5) (h:be n s):az M A c R s:=by
 induction n using a5.strongRecOn generalizing s with
 |ind n i=>
  refine aI hd (aw (g n s h) (λa s' hf=>?_) λZ Z h'=>h');cases a with
  |done f=>exact hf
  |J2 b=>obtain⟨rfl,m,j,k⟩:=hf;exact⟨d,i m j k⟩
end
theorem BW{l:am (KM×Dx)}(h:guardsOf l=[]):∀x∈l,x.1.isGuard=false:=by
 induction l with
 |iv=>intro x m;simp at m
 |d2 y r a=>
  obtain⟨c,p⟩:=y;rw[guardsOf_cons]at h;have h1:=am.append_eq_nil_iff.mp h;intro x m;rcases am.hD.mp m with rfl |m
  ·cases q:c.isGuard with
   |false=>rfl
   |true=>have:=h1.1;simp[KM.Iz,q]at this
  ·exact a h1.2 x m
abbrev dR{M:z3}{A:ec}{L:a9->a6->Prop}{s:a6}{y6:a9}{E:ct->a6->Prop}:Prop:=∀(hg:A.Iz=ap []) (h:E false s),ch M A (l7.y3.exported y6) E L s
theorem nq:∀{M A L s y6 E},@dR M A L s y6 E:=by
 refine λ{M A L s y6 E}=>cK (q:=tH @dR) ((?_:∀M A L s y6 E,@dR M A L s y6 E) _ _ _ _ _ _) (M,A,L,s,y6,E);intro M A L s y6 E hg h;refine⟨λe p f h1 h2=>?_⟩;have g:=f.2.2.2.1 [] hg;rw[←guardsOf_cons e.J1 p]at g;refine(b5 (E · s) (am.any_eq_false.ow λx m=>ct.sA.mp ?_)).ow h;have a:=BW g x m;have b:=pY.d2 h1 h2 x m;obtain⟨c,q⟩:=x;cases c with
 |eu id ci=>
  have d:∀i:z8,guardIds.b6 i=true->¬id=i:=λi y z=>ct.wT (a.symm.trans (z▸y));delta l7.y3.exported.match_1;refine Eq.trans (dif_neg (d "bytearray.__contains__" (by decide+kernel))) (Eq.trans (dif_neg (d "bytearray.__mod__" (by decide+kernel))) (Eq.trans (dif_neg (d "bytearray.__rmod__" (by decide+kernel))) (Eq.trans (dif_neg (d "_struct.pack_into.held" (by decide+kernel))) (Eq.trans (dif_neg (d "bytearray.find.held" (by decide+kernel))) ?_))));obtain⟨_ |⟨v,l⟩,j⟩:=ci
  ·rfl
  ·exact(b5 _ b).trans (ct.and_false _)
 |_=>rfl
section
variable{M:z3}{A:ec}{L:a9->a6->Prop}{s:a6}
theorem rH{α:Type}{vs:am a9}{m:xE α}{E:α->a6->Prop}(h:ch M A m E L s):ch M A (m.j1 vs) E L s:=⟨λa p b h1 h2=>by rw[xE.wp_keep];exact h.go a p b h1 h2⟩
abbrev gx{f:a9}{ci:am (ct×xE a9)}{E:Args->a6->Prop}:Prop:=∀(a:ci.any (·.1)=false) (h:ch M A (spliced ci) (λvs s'=>E ⟨vs,[]⟩ s') L s),ch M A (evalArgs f true ci []) E L s
theorem sH:∀{M A L s f ci E},@gx M A L s f ci E:=by
 refine λ{M A L s f ci E}=>cK (q:=tG @gx) ((?_:∀M A L s f ci E,@gx M A L s f ci E) _ _ _ _ _ _ _) (M,A,L,s,f,ci,E);intro M A L s f ci E c h;have d:ch M A (spliced ci>>=λvs=>(h8 (vs,(bk:bS a9)):xE (am a9×bS a9))>>=λx=>a8.ff (x.1++x.2.q6) (h8 ⟨x.1,[]⟩)) E L s:=
  aa (aw h (λvs s' h'=>aa (af (ak (af h')))) λZ Z x=>x)
 cases ci with
 |iv=>exact aa (aw h (λvs s' h'=>ak (aa (af (aa (af (af h')))))) λZ Z x=>x)
 |d2 a l=>
  obtain⟨b,t⟩:=a;simp only[am.any_cons,ct.kb]at c;obtain⟨rfl,_⟩:=c;exact aa (aw h (λvs s' h'=>ak (aa (af (aa (af (af h')))))) λZ Z x=>x)
theorem fW{P:d4->Prop}{f:a9}{i:am a9}{ci:am (ct×xE a9)}{bv:Dx}{E:a9->a6->Prop}(j:ci.any (·.1)=false)
  (n:∀h,P h->∃k,(k=Keeper.f5\/k=Keeper.machine\/k=Keeper.boundFrame)/\r5 M h (keeperOf f) k)
  (h:ch M A (spliced ci) (λvs d=>P d.bh/\ch M A (ng f (i++vs) []) E L d) L s):ch M A (callWith bv f i ci []) E L s:=by
 refine aa (ak (sH j (aw h (λvs d e=>aa (ax ?_)) λZ Z x=>x)));obtain⟨k,o,ad⟩:=n _ e.1;rw[j];refine aa (cl (ad.here ?_));have g:∀{t:xE a9},ch M A t E L d->ch M A (t>>=λr=>a8.ff [r] point>>=λZ=>h8 r) E L d:=
  λht=>aa (aw ht (λr u p=>aa (ak (kB (af p)))) λZ Z x=>x)
 have l:∀{c:Prop} [Decidable c] {a b:xE a9},ch M A a E L d->ch M A b E L d->ch M A (if c then a else b) E L d:=λ{c} Z {a b} x y=>by by_cases q:c;exact(et q).symm▸x;exact(dx q).symm▸y
 have m (mk:a9):ch M A (callMarked mk f (i++vs) []) E L d:=by
  exact rH e.2
 rcases o with rfl |rfl |rfl
 ·exact l (g e.2) (g (m _))
 ·exact g e.2
 ·exact l (g e.2) (g (m _))
end
section
variable{bZ:mS}{w:tq}{A:ec}{L:a9->a6->Prop}{R:r3->a6->Prop}{s:a6}{u:Cg}
def fj(M:z3)(A:ec)(u:Cg)(R:r3->a6->Prop)(e:a9)(s':a6):Prop:=
 ch M A (K2 e u>>=λZ=>Kh e) (λZ a=>R (.B3 e) a) (λb a=>R (.B3 b) a) s'
abbrev jR{a:fY}{lV:am xo}(be:a5->a6->Prop):Prop:=∀(e:∀n s,be n s->ch (dd bZ w) A (isTrue a u (pa a u)) (λb d=>
    if b then ch (dd bZ w) A (KE lV u) (λf c=>match f with
      | .next | .cont=>∃m,m<n/\be m c
      | .brk=>R (.ok .next) c
      | .ret v=>R (.ok (.ret v)) c) (fj (dd bZ w) A u R) d
    else R (.ok .next) d) (fj (dd bZ w) A u R) s) (n:a5) (h:be n s),az (dd bZ w) A (.whileLoop a lV [] u) R s
theorem xT:∀{bZ w A R s u a lV} (be),@jR bZ w A R s u a lV be:=by
 refine λ{bZ w A R s u a lV} (be)=>cK (q:=nk @jR) ((?_:∀bZ w A R s u a lV be,@jR bZ w A R s u a lV be) _ _ _ _ _ _ _ _ _) (bZ,w,A,R,s,u,a,lV,be);intro bZ w A R s u a lV be e n h;refine jz rfl rfl be (λn s g=>?_) n h;show ch _ A ((whileTurn a lV [] u).onRaise (λx=>do K2 x u;Kh x)) _ _ s;refine aX (aa (aw (e n s g) (λb i d=>?_) λZ Z h'=>h'));cases b with
 |false=>
  exact aa (af (af d))
 |true=>
  refine aa (aw d (λf j c=>?_) λZ Z h'=>h');cases f with
  |next=>exact af ⟨rfl,c⟩
  |cont=>exact af ⟨rfl,c⟩
  |brk=>exact af c
  |ret v=>exact af c
def lx(M:z3)(A:ec)(u:Cg)(L:a9->a6->Prop)(x:a9)(s':a6):Prop:=
 ch M A (do
  if(←field x 1)==.bk then J3 "frame.own-activation:exception-without-traceback"
  setFlight x u.f5) (λZ a=>L x a) L s'
theorem jy{c:KM}{E:Flow->a6->Prop}(a:az (dd bZ w) A c (λr s'=>match r with | .ok f=>E f s' | .B3 e=>lx (dd bZ w) A u L e s') s):ch (dd bZ w) A (runOwn c u bk) E L s:=by exact aX (jP a (by intro x;cases x))
theorem qK{lV:am xo}(h:ch (dd bZ w) (A.Ki u) (KE lV u) (λf s'=>R (.ok (.ret (match f with | .ret v=>v |_=> .bk))) s')
   (λe s'=>ch (dd bZ w) (A.Ki u) (leaving u e) (λZ a=>R (.B3 e) a) (λb a=>R (.B3 b) a) s') s):az (dd bZ w) A (.func lV u) R s:=by apply aI rfl;show ch _ (A.Ki u) (do point;match←(KE lV u).onRaise (leaving u)with | .ret v=>ret v |_=>ret .bk) _ _ s;refine aa (kB (aa (aX (aw h (λf s' h'=>?_) λZ Z h'=>h'))));cases f<;>exact af h'
abbrev l9{a:e9}{ci:Args}{o:Do}{fd:xF}{lV:am xo}:Prop:=∀(f:A.Lw<recursionLimit) (g:s.bh.ck a=ap o) (i:o.hy=.func fd) (j:fd.jp.DH=false) (k:fd.jp.DM=false) (l:fd.lV=.stmts lV) (m:s.bh.CodeRec fd.J1 fd.DN) (h:ch (dd bZ w) A.in1 (bindArgs fd ci) (λc d=>
   ch (dd bZ w) A.in1 (newFunctionEnv fd.jp fd.y0 fd.closure c (fd.DN++ ".<locals>.") (ap a) fd.J1 bk fd.r6)
    (λu b=>b.bh.NoLimit/\az (dd bZ w) A (.func lV u) R b) (λe s'=>R (.B3 e) s') d) (λe s'=>R (.B3 e) s') s),az (dd bZ w) A (.ng (.bs a) ci) R s
theorem rf:∀{bZ w A R s a ci o fd lV},@l9 bZ w A R s a ci o fd lV:=by
 refine λ{bZ w A R s a ci o fd lV}=>cK (q:=kD @l9) ((?_:∀bZ w A R s a ci o fd lV,@l9 bZ w A R s a ci o fd lV) _ _ _ _ _ _ _ _ _ _) (bZ,w,A,R,s,a,ci,o,fd,lV);intro bZ w A R s a ci o fd lV e f g i j k l h;apply aI rfl;refine aa (cJ f ?_);obtain⟨c,t,vs,v,b,m,n,p⟩:=l;rw[g];show ch _ _ (callFunction a fd ci) _ _ _;delta callFunction;rw[b,k,j,i];rw[b]at h;refine aa (cl (ul m n p (aa (af ?_))));exact aa (aw h (λx y r=>aa (aw r (λu z d=>aa (cl (wpAny_enterFrame d.1 e
  (af (And.intro rfl d.2))))) λZ Z h'=>h')) λZ Z h'=>h')
end
end Internal
end
section
namespace Internal
section
variable{M:z3}{A:ec}{L:a9->a6->Prop}{s:a6}
theorem look{α β:Type}{h:d4}{t:xE α}{r:α}{k:α->xE β}{E:β->a6->Prop}(l:r5 M h t r)(a:∀b o,h.ck b=ap o->s.bh.ck b=ap o)(q:ch M A (k r) E L s):ch M A (t>>=k) E L s:=
 aa (cl (l A _ L s a q))
end
theorem kl{bZ:mS}{w:tq}{A:ec}{R:r3->a6->Prop}{s:a6}{id:z8}{ci:Args}{b:l7}(c:(KM.eu id ci).quiet=true)(hb:Cm table id=ap b)(hd:l7.y3.Iy.b6 id=false)
  (h:a8.ch (dd bZ w) A.in1 (p3 id ci) (λZ a=>a=s) (λZ Z=>uk) s)
  (h2:ch (dd bZ w) (A.under (.eu id ci)) (b ci) (λd s'=>match d with | .done f=>R (.ok f) s' | .J2 c'=>c'.quiet=true/\az (dd bZ w) A c' R s') (λe s'=>R (.B3 e) s') s):az (dd bZ w) A (.ng (.eu id) ci) R s:=by apply aI rfl;show ch _ A.in1 (do p3 id ci;J2 (.eu id ci)) _ _ s;refine aa (aw (cl h) (λZ a e=>?_) λZ Z x=>x.ef);clear h;subst e;refine af (And.intro c (aI hd ?_));show ch _ _ (match Cm table id with |ap b=>b ci |bk=>J3 ((withoutEnding? id "#data").ww id)) _ _ a;rw[hb];exact h2
abbrev lO{bZ:mS}{w:tq}{A:ec}{R:r3->a6->Prop}{h:d4}{g:rv GenState}{Q:Drawn}{t:a5}{os:OsState}{C:e9}{s8:am a9}{a:am (h9×a9)}{init:a9}:Prop:=∀(Y:Makes (dd bZ w) h C) (hi:r5 (dd bZ w) h (r4 (.bs C) "__init__") (ap init)) (hb:∀y6,r5 (dd bZ w) h (bindSpecial init y6) (init,[y6])) (b:(ap init !=ap (a9.eu "object.__init__"))=true\/(s8=[]/\a=[])) (c:az (dd bZ w) (A.under (.eu "type.__call__" ⟨.bs C::s8,a⟩)) (.ng init ⟨.bs (h.kq.hN+1)::s8,a⟩) (InitBack (h.kq.hN+1) R) ⟨(h.o4 E1).o4 (KP C h.kq.hN),g,Q,t,os⟩),az (dd bZ w) A (.ng (.bs C) ⟨s8,a⟩) R ⟨h,g,Q,t,os⟩
theorem B6:∀{bZ w A R h g Q t os C s8 c init},@lO bZ w A R h g Q t os C s8 c init:=by
 refine λ{bZ w A R h g Q t os C s8 c init}=>cK (q:=kC @lO) ((?_:∀bZ w A R h g Q t os C s8 c init,@lO bZ w A R h g Q t os C s8 c init) _ _ _ _ _ _ _ _ _ _ _ _ _) (bZ,w,A,R,h,g,Q,t,os,C,s8,c,init);intro bZ w A R h g Q t os C s8 c init Y hi hb j l;haveI m:=Y;refine aD λD n=>?_;obtain⟨⟨E,od,cd,sl,d,F,G,p⟩,s,tg,y6,top,ng,typ⟩:=Y;apply n;apply aI rfl;refine aa (cJ d ?_);apply look ng (λZ Z e=>e);dsimp only;rw[tc_bind];refine aa (af (aa (af ?_)));refine af (a:=Fin.J2 (.ng (.eu "type.__call__") ⟨.bs C::s8,c⟩)) (And.intro rfl ?_);apply kl (KM.quiet_builtin _ (by decide+kernel)) entry_typeCall (by decide+kernel) (check_slot tc_kind tc_split typ (tc_args _ _ _) rfl);haveI u:r5 (dd bZ w) h (mroOf (.bs C)) cd.mro:=((r5.ld d).Ch .now).Ch .now;haveI f:∀b o,h.ck b=ap o->h.ck b=ap o:=λZ Z e=>e;apply look u f;rw[p];apply look s f;refine aa (af (aa (ak (aT (L9 (new_K m hi j ?_))))));have k:∀b o,h.ck b=ap o->((h.o4 E1).o4 (KP C h.kq.hN)).ck b=ap o:=λb o e=>d4.e7 _ (d4.e7 _ e);haveI x:((h.o4 E1).o4 (KP C h.kq.hN)).ck (h.kq.hN+1)=ap (KP C h.kq.hN):=by heap_get
 have i:r5 (dd bZ w) ((h.o4 E1).o4 (KP C h.kq.hN)) (typeOf (.bs (h.kq.hN+1))) (.bs C):=(r5.ld x).Ch .now;haveI y:r5 (dd bZ w) ((h.o4 E1).o4 (KP C h.kq.hN)) (isInstance (.bs (h.kq.hN+1)) (.bs C)) true:=i.Ch (y6.Lx k);apply look y (λZ Z e=>e);refine aa (ak ?_);haveI B:r5 (dd bZ w) ((h.o4 E1).o4 (KP C h.kq.hN)) (HL (.bs (h.kq.hN+1)) "__init__") (ap init):=i.Ch (hi.Lx k);apply look B (λZ Z e=>e);refine ak (look ((hb (.bs (h.kq.hN+1))).Lx k) (λZ Z e=>e) ?_);refine aa (aT (cz l λr s' z=>?_));rcases r with e |(v |_ |_ |_)<;>first |exact z |exact z.ef |skip
 obtain⟨rfl,z⟩:=z;exact af (af z)
inductive V where
 |i1 |bk |gg (b:ct) |bn (i:b0) |J6 (s:am a5) |d3 (b:am cy) |KS (l:am V) |bs (t k:a5)
inductive O where
 |qD (fs:am (a5×V)) |dG (l:am V) |di (l:am (b0×V)) |ds (l:am (am a5×V)) |aB (b:am cy) |fix (o:Do) (l:am V)
structure H where
 ed:a5->a5->bS O
 gz:a5->a5
def H.fC(h:H)(t k:a5)(o:O):H:=⟨λt' k'=>if t'=t/\k'=k then ap o else h.ed t' k',h.gz⟩
def H.hM(h:H)(t:a5)(o:O):H:=⟨λt' k'=>if t'=t/\k'=h.gz t then ap o else h.ed t' k',λt'=>if t'=t then h.gz t+1 else h.gz t'⟩
inductive R(α:Type)where
 |ok (a:α) (h:H) |exc (c:a5) (h:H)
abbrev aQ:a5:=1000000
def aP(i:b0):Prop:= -4611686018427387904<i/\i<4611686018427387904
abbrev cps(l:am a5):h9:=⟨l.eb⟩
inductive GX where
 |j2 |d9 (t k:a5) |f5 (L:e9) |DD
theorem GX.d9.zv{t k t' k':a5}(h:GX.d9 t k=.d9 t' k'):t=t'/\k=k':=GX.HD h λa b=>⟨a,b⟩
theorem GX.f5.zv{a b:e9}(h:GX.f5 a=.f5 b):a=b:=GX.HD h id
theorem V.bs.zv{t k t' k':a5}(h:V.bs t k=.bs t' k'):t=t'/\k=k':=V.HD h λa b=>⟨a,b⟩
structure Ph where
 al:a5->a5->e9
 k0:e9->GX
structure Wd where
 bZ:mS
 w:tq
 hE:d4
 K:Frag
 mm:a5->e9
 ev:a5->h9
 H4:a5->am a5
 gens:rv GenState
 drawn:Drawn
 os:OsState
 DD:bS (e9×h9)
 lv:Prop
instance:ru V:=⟨.bk⟩
instance:ru O:=⟨.dG []⟩
instance:ru H:=⟨⟨λZ Z=>bk,λZ=>0⟩⟩
instance:ru GX:=⟨.j2⟩
instance:ru Ph:=⟨⟨λZ Z=>0,λZ=> .j2⟩⟩
instance{α:Type} [ru α]:ru (R α):=⟨.exc 0 (z7.choice inferInstance)⟩
instance:ru Wd:=⟨⟨yT,z7.choice inferInstance,yT,yT,λZ=>0,λZ=>yT,λZ=> [],yT,{},yT,bk,Fw⟩⟩
def qE(d:H)(t k:a5):Prop:=(d.ed t k).z_=true
mutual
noncomputable def aF(P:Ph)(d:H)(h:Heap):V->Value->Prop
 | .undef,_=>False
 | .none,v=>v=.none
 | .bool b,v=>v=.bool b
 | .int i,v=>∃t,v=.int i t
 | .str s,v=>∃t,v=.str (cps s) t
 | .bytes b,v=>∃t,v=.bytes b.toArray t
 | .tup l,v=>∃a vs,v=.ref a/\P.own a=.free/\IsTup h a vs.toArray/\aA P d h l vs
 | .ref t k,v=>v=.ref (P.al t k)/\live d t k
noncomputable def aA(P:Ph)(d:H)(h:Heap):List V->List Value->Prop
 | [],vs=>vs=[]
 |a::l,vs=>∃v ws,vs=v::ws/\aF P d h a v/\aA P d h l ws
end
abbrev Eb(es:am vB)(n:a5):Do:={mm:=.fX "dict",hy:=.BT es.eb n}
abbrev b7(vs:am a9)(n:a5):Do:={mm:=.fX "list",hy:=.seq vs.eb n}
abbrev AO(b:am cy):Do:={mm:=.fX "bytearray",hy:=.bytearray b.eb 0}
section
variable(D:Wd)(P:Ph)(d:H)(h:d4)
def iA:am (a5×V)->am vB->Prop
 | [],es=>es=[]
 |p::fs,es=>∃e r,es=e::r/\(∃t,e.key=.J6 (D.ev p.1) t)/\aF P d h p.2 e.val/\iA fs r
def jf{κ lw:Type}(f:κ->lw)(ok:κ->Prop):am (κ×V)->am (lw×a9)->Prop
 | [],r=>r=[]
 |p::l,r=>∃I s,r=(f p.1,I)::s/\ok p.1/\aF P d h p.2 I/\jf f ok l s
abbrev Mj(_:am a5):Prop:=Fw
def jx(t k:a5):O->Prop
 | .qD fs=>∃Q es n,h.ck (P.al t k)=ap (KP (D.mm t) Q)/\h.ck Q=ap (Eb es n)/\P.k0 Q=.d9 t k/\Q≠P.al t k/\(∀a,a∈fs.hC (·.1)->(D.H4 t).b6 a=true)/\iA D P d h fs es
 | .dG l=>∃vs n,h.ck (P.al t k)=ap (b7 vs n)/\aA P d h l vs
 | .di l=>∃c,h.GY (intKind D.bZ D.w) (P.al t k) c/\jf P d h (λi=>i) aP l c
 | .ds l=>∃c,h.GY (strKind D.bZ D.w) (P.al t k) c/\jf P d h cps Mj l c
 | .aB b=>h.ck (P.al t k)=ap (AO b)
 | .fix o l=>h.ck (P.al t k)=ap o/\∃vs:am a9,(o.mm=.fX "list" /\∃n,o.hy=.seq vs.eb n)/\aA P d h l vs
end
structure TabAt(D:Wd)(P:Ph)(h:d4):Prop where
 there:∀b,P.k0 b=.DD->∃o,h.ck b=ap o
 DD:∀a q,D.DD=ap (a,q)->P.k0 a=.DD/\∃ps:rv a9,h.ck a=ap {mm:=.bk,hy:=.j3 ps}/\TriplesOk ps.q6/\∀bv cv,codeAmong bv ps.q6=ap cv->
  ∃c oc vs t,cv=.bs c/\P.k0 c=.DD/\h.ck c=ap oc/\oc.hy=.j3 vs/\vs[1]?=ap (.J6 q t)
theorem TabAt.kx{D:Wd}{P P':Ph}{h h':d4}(x:TabAt D P h)(c:∀b,P'.k0 b=.DD->P.k0 b=.DD)(k1:∀b o,P.k0 b=.DD->h.ck b=ap o->h'.ck b=ap o/\P'.k0 b=.DD):TabAt D P' h':=
 ⟨λb e=>(x.there b (c b e)).DO λo g=>(k1 b o (c b e) g).1,λa q e=>(x.DD a q e).2.ef λd w=>⟨(k1 a _ (x.DD a q e).1 w.1).2,d,(k1 a _ (x.DD a q e).1 w.1).1,w.2.1,λbv i f=>(w.2.2 bv i f).DO λj z=>z.DO λk z=>z.DO λvs z=>z.DO λtk z=>⟨z.1,(k1 _ _ z.2.1 z.2.2.1).2,(k1 _ _ z.2.1 z.2.2.1).1,z.2.2.2⟩⟩⟩
structure iz(D:Wd)(fr:Prop)(P:Ph)(d:H)(h:d4):Prop where
 min:∀b t k,P.k0 b=.d9 t k->∃o,h.ck b=ap o
 low:∀b M,P.k0 b=.f5 M->M<=b
 qL:fr->∀b M,P.k0 b=.f5 M->∃o,h.ck b=ap o/\∀vs,o.hy≠ .j3 vs
 tg:∀b o,D.hE.ck b=ap o->h.ck b=ap o/\P.k0 b=.j2
 ed:∀t k o,d.ed t k=ap o->jx D P d h t k o/\P.k0 (P.al t k)=.d9 t k
 fresh:∀t k,d.gz t<=k->d.ed t k=bk
 DD:TabAt D P h
structure St(D:Wd)(P:Ph)(d:H)(s:a6):Prop where
 h:iz D Fw P d s.bh
 r:s.gens=D.gens/\s.drawn=D.drawn/\s.os=D.os/\D.lv
theorem St.lv{D:Wd}{P:Ph}{d:H}{s:a6}(S:St D P d s):D.lv:=S.r.2.2.2
structure At(ad:bS e9)(P P':Ph)(d U:H)(h h':d4):Prop where
 qE:∀t k,qE d t k->qE U t k/\P'.al t k=P.al t k
 j1:∀b o,h.ck b=ap o->P.k0 b=.j2->h'.ck b=ap o
 f5:∀b o M,h.ck b=ap o->P.k0 b=.f5 M->ap M≠ad->∃sl,h'.ck b=ap {o with vT:=sl}
 kG:∀b o,h.ck b=ap o->∃o',h'.ck b=ap o'
 k0:∀b o,h.ck b=ap o->P'.k0 b=P.k0 b
structure o8(P P':Ph)(d U:H)(h h':d4):Prop where
 qE:∀t k,a4.qE d t k->a4.qE U t k/\P'.al t k=P.al t k
 j1:∀b o,h.ck b=ap o->P.k0 b=.j2->(o.mm=.fX "tuple" \/o.mm=.fX "slice")->h'.ck b=ap o/\P'.k0 b=.j2
section
variable{D:Wd}{fr:Prop}{ad:bS e9}{P P' cS:Ph}{d U ay:H}{h h' Co:d4}
theorem At.hJ:At ad P P d d h h:=⟨λZ Z l=>⟨l,rfl⟩,λZ Z e Z=>e,λZ o Z e Z Z=>⟨o.vT,e⟩,λZ o e=>⟨o,e⟩,λZ Z Z=>rfl⟩
theorem At.weak(x:At bk P P' d U h h'):At ad P P' d U h h':=⟨x.qE,x.j1,λb o M a c Z=>x.f5 b o M a c (λz=>oP z),x.kG,x.k0⟩
theorem At.trans(x:At ad P P' d U h h')(y:At ad P' cS U ay h' Co):At ad P cS d ay h Co:=
 ⟨λt k l=>⟨(y.qE t k (x.qE t k l).1).1,(y.qE t k (x.qE t k l).1).2.trans (x.qE t k l).2⟩,λb o e f=>y.j1 b o (x.j1 b o e f) ((x.k0 b _ e).trans f),
  λb o M e f n=>(x.f5 b o M e f n).ef λZ a=>(y.f5 b _ M a ((x.k0 b _ e).trans f) n).DO λZ z=>z,λb o e=>(x.kG b o e).ef λc a=>y.kG b c a,λb o e=>(x.kG b o e).ef λc a=>(y.k0 b c a).trans (x.k0 b o e)⟩
theorem At.q7(x:At ad P P' d U h h'):o8 P P' d U h h':=⟨x.qE,λb o e f Z=>⟨x.j1 b o e f,(x.k0 b _ e).trans f⟩⟩
theorem IsTup.LL{a:e9}{vs:rv a9}(x:IsTup h a vs):∃o,h.ck a=ap o:=x.DO λo z=>z.1
mutual
theorem aF.mono(x:o8 P P' d U h h'):∀{v:V} {I:Value},aF P d h v I->aF P' U h' v I
 | .undef,_,r=>r
 | .none,_,r=>r
 | .bool _,_,r=>r
 | .int _,_,r=>r
 | .str _,_,r=>r
 | .bytes _,_,r=>r
 | .tup _,_,⟨a,vs,e,f,⟨o,e',r1⟩,r2⟩=>⟨a,vs,e,(x.keep a o e' f (.inl r1.1)).2,(aR o ((x.keep a o e' f (.inl r1.1)).1) r1),aA.mono x r2⟩
 | .ref t k,_,⟨e,l⟩=>⟨e.trans (congrArg Value.ref (x.live t k l).2.symm),(x.live t k l).1⟩
theorem aA.mono(x:o8 P P' d U h h'):∀{v:List V} {I:List Value},aA P d h v I->aA P' U h' v I
 | [],_,r=>r
 |_::_,_,⟨v,ws,e,r1,r2⟩=>eN v ws e (r1.mono x) (aA.mono x r2)
end
theorem aA.ah:∀{l:am V} {vs:am a9},aA P d h l vs->l.ah=vs.ah:=by
 intro a
 induction a with
 |iv=>
  intro Z r;exact r▸rfl
 |d2 _ _ b=>
  intro Z c;obtain⟨_,_,e,_,f⟩:=c;exact e▸b5 a5.Fy (b f)
theorem aA.LL:∀{l:am V} {vs:am a9},aA P d h l vs->∀{i:a5} {v:V},l[i]?=ap v->∃I,vs[i]?=ap I/\aF P d h v I:=by
 intro l
 induction l with
 |iv=>exact λZ Z Z e=>dE e
 |d2 x l a=>
  intro vs r i v q;refine dQ r λI ws e b c=>?_;clear r;subst e;cases i with
  |zero=>exact⟨I,rfl,bS.ap.zv q▸b⟩
  |Fy i=>exact a c q
theorem aA.append{m:am V}{ws:am a9}(q:aA P d h m ws):∀{l:am V} {vs:am a9},aA P d h l vs->aA P d h (l++m) (vs++ws):=by
 intro a
 induction a with
 |iv=>
  intro Z r;exact r▸q
 |d2 _ _ b=>
  intro Z c;obtain⟨I,_,e,f,g⟩:=c;exact e▸⟨I,_,rfl,f,b g⟩
end
section
variable{D:Wd}{fr LW:Prop}{ad:bS e9}{P P' cS:Ph}{d U ay:H}{h h' Co:d4}
theorem aA.hC(g:∀{v:V} {I:a9},aF P d h v I->aF P' U h' v I):∀{v:am V} {I:am a9},aA P d h v I->aA P' U h' v I:=by
 intro a
 induction a with
 |iv=>
  intro Z r;exact r
 |d2 _ _ b=>
  intro Z c;obtain⟨v,ws,e,f,i⟩:=c;exact eN v ws e (g f) (b i)
theorem iA.hC(g:∀{v:V} {I:a9},aF P d h v I->aF P' U h' v I):∀{v:am (a5×V)} {I:am vB},iA D P d h v I->iA D P' U h' v I:=by
 intro a
 induction a with
 |iv=>
  intro Z r;exact r
 |d2 _ _ b=>
  intro Z c;obtain⟨e,s,f,i,j,k⟩:=c;exact nj e s f i (g j) (b k)
theorem jf.hC{κ lw:Type}{f:κ->lw}{ok:κ->Prop}(g:∀{v:V} {I:a9},aF P d h v I->aF P' U h' v I):∀{v:am (κ×V)} {I:am (lw×a9)},jf P d h f ok v I->jf P' U h' f ok v I:=by
 intro a
 induction a with
 |iv=>
  intro Z r;exact r
 |d2 _ _ b=>
  intro Z r;exact iy r λI s c e i j=>nj I s c e (g i) (b j)
abbrev jx.yX{t k:a5}{o:O}:Prop:=∀(g:∀{v:V} {I:a9},aF P d h v I->aF P' U h' v I) (w:P.k0 (P.al t k)=.d9 t k) (ea:P'.al t k=P.al t k) (hs:∀b x,P.k0 b=.d9 t k->h.ck b=ap x->h'.ck b=ap x/\P'.k0 b=.d9 t k) (r:jx D P d h t k o),jx D P' U h' t k o
theorem jx.hC:∀{D P P' d U h h' t k o},@jx.yX D P P' d U h h' t k o:=by
 refine λ{D P P' d U h h' t k o}=>cK (q:=kD @jx.yX) ((?_:∀D P P' d U h h' t k o,@jx.yX D P P' d U h h' t k o) _ _ _ _ _ _ _ _ _ _) (D,P,P',d,U,h,h',t,k,o);intro D P P' d U h h' t k o g w ea hs r;cases o with
 |qD _=>
  exact Ha r λQ es n b a c l m p=>EB Q es n (ab ea ((hs _ _ w b).1)) ((hs _ _ c a).1) ((hs _ _ c a).2) (ab ea l) m (p.hC g)
 |dG _=>
  exact aO r λvs n b a=>gZ vs n (ab ea ((hs _ _ w b).1)) (a.hC g)
 |di _=>
  refine aD λj e=>?_;obtain⟨f,⟨x,es,i,b,a⟩,c⟩:=r;apply e;exact aR f ⟨x,es,i,ea▸(hs _ _ w b).1,a⟩ (c.hC g)
 |ds _=>
  refine aD λj e=>?_;obtain⟨f,⟨x,es,i,b,a⟩,c⟩:=r;apply e;exact aR f ⟨x,es,i,ea▸(hs _ _ w b).1,a⟩ (c.hC g)
 |aB _=>exact show h'.ck (P'.al t k)=_ from ea▸(hs _ _ w r).1
 |fix _ _=>
  refine aD λj e=>?_;obtain⟨b,vs,a,c⟩:=r;apply e;exact⟨ea▸(hs _ _ w b).1,vs,a,c.hC g⟩
end
theorem qo{P:Ph}{a b:e9}{x y:GX}(ha:P.k0 a=x)(hb:P.k0 b=y)(n:x≠y):a≠b:=λe=>n (ha▸e▸hb)
section
variable{D:Wd}{fr:Prop}{P P':Ph}{d U:H}{h h':d4}(S:iz D fr P d h)
include S
theorem iz.change{t k:a5}{i o:O}(g:d.ed t k=ap i)
  (hs:∀b x,P.k0 b≠ .d9 t k->h.ck b=ap x->h'.ck b=ap x) (a:∀b o,h.ck b=ap o->∃c,h'.ck b=ap c)
  (hn:(∀{v I},aF P d h v I->aF P (d.fC t k o) h' v I)->jx D P (d.fC t k o) h' t k o):
  iz D fr P (d.fC t k o) h'/\At bk P P d (d.fC t k o) h h':=by
 have lv:∀t' k',qE d t' k'->qE (d.fC t k o) t' k':=λt' k' l=>by
  delta qE H.fC;dsimp only;clear hn a hs g i;split
  ·rfl
  ·exact l
 have X:At bk P P d (d.fC t k o) h h':=⟨λt' k' l=>⟨lv t' k' l,rfl⟩,λb x e f=>hs b x (ab f (λz=>bf GX.b4 z rfl)) e,λb x M e f _=>⟨x.vT,hs b x (ab f (λz=>bf GX.b4 z rfl)) e⟩,a,λ_ _ _=>rfl⟩;refine⟨⟨λb t' k' q=>(S.min b t' k' q).ef (a b),S.low,λf b M e=>(S.qL f b M e).DO λo q=>⟨hs b o (ab e (λz=>bf GX.b4 z rfl)) q.1,q.2⟩,λb x e=>⟨hs b x (ab ((S.tg b x e).2) (λz=>bf GX.b4 z rfl)) (S.tg b x e).1,(S.tg b x e).2⟩,λt' k' c e=>?_,λt' k' e=>?_,S.DD.kx (λ_ e=>e) λb x f e=>⟨hs b x (ab f (λz=>bf GX.b4 z rfl)) e,f⟩⟩,X⟩
 ·unfold H.fC at e;dsimp only at e;clear a lv;split at e
  ·rename_i q;clear hs;obtain⟨rfl,rfl⟩:=q
   cases e;exact⟨hn λr=>r.kx X.q7,(S.ed _ _ _ g).2⟩
  ·rename_i q
   haveI w:=(S.ed t' k' c e).2;exact⟨(S.ed t' k' c e).1.hC (λr=>r.kx X.q7) w rfl λb x j m=>⟨hs b x (λz=>q (by replace z:=j▸z;clear m j x b w X e c q hn hs g i;cases z;exact⟨rfl,rfl⟩)) m,j⟩,w⟩
 ·have z:=S.fresh t' k' e;delta H.fC;dsimp only;clear X e a lv hn hs;split
  ·rename_i q;obtain⟨rfl,rfl⟩:=q;replace z:=g▸z;exact oP z
  ·exact z
theorem iz.hA(hs:∀b x,h.ck b=ap x->h'.ck b=ap x):iz D fr P d h'/\At bk P P d d h h':=by
 have X:At bk P P d d h h':=⟨λt' k' l=>⟨l,rfl⟩,λb x e Z=>hs b x e,λb x M e Z Z=>⟨x.vT,hs b x e⟩,λb o e=>⟨o,hs b o e⟩,λZ Z Z=>rfl⟩;exact⟨⟨λb t' k' q=>(S.min b t' k' q).DO λo e=>hs b o e,S.low,λf b M e=>(S.qL f b M e).DO λo q=>⟨hs b o q.1,q.2⟩,λb x e=>⟨hs b x (S.tg b x e).1,(S.tg b x e).2⟩,
  λt' k' a e=>⟨(S.ed t' k' a e).1.hC (λr=>r.kx X.q7) (S.ed t' k' a e).2 rfl λb x c g=>⟨hs b x g,c⟩,(S.ed t' k' a e).2⟩,S.fresh,S.DD.kx (λZ e=>e) λb x f e=>⟨hs b x e,f⟩⟩,X⟩
end
def Ph.put(P:Ph)(t k:a5)(a Q:e9):Ph:=⟨λt' k'=>if t'=t/\k'=k then a else P.al t' k',λb=>if b=a\/b=Q then .d9 t k else P.k0 b⟩
theorem jj{P:Ph}{t k:a5}{a Q b:e9}{x:GX}(e:(P.put t k a Q).k0 b=x):(x=.d9 t k/\(b=a\/b=Q))\/(P.k0 b=x/\¬(b=a\/b=Q)):=by
 unfold Ph.put at e;dsimp only at e;split at e
 ·rename_i q;exact .u0 ⟨e.symm,q⟩
 ·rename_i q;exact .wl ⟨e,q⟩
theorem vq{P:Ph}{t k:a5}{a Q b:e9}(q:¬(b=a\/b=Q)):(P.put t k a Q).k0 b=P.k0 b:=dx q
theorem DF{P:Ph}{t k:a5}{a Q:e9}:(P.put t k a Q).k0 a=.d9 t k:=et (.u0 rfl)
theorem HA{P:Ph}{t k:a5}{a Q:e9}:(P.put t k a Q).k0 Q=.d9 t k:=et (.wl rfl)
theorem ey{P:Ph}{t k:a5}{a Q:e9}:(P.put t k a Q).al t k=a:=et ⟨rfl,rfl⟩
abbrev lM{d:H}{t t' k':a5}{o a:O}:Prop:=∀(e:(d.hM t o).ed t' k'=ap a),(t'=t/\k'=d.gz t/\a=o)\/(¬(t'=t/\k'=d.gz t)/\d.ed t' k'=ap a)
theorem vA:∀{d t t' k' o a},@lM d t t' k' o a:=by
 refine λ{d t t' k' o a}=>cK (q:=tH @lM) ((?_:∀d t t' k' o a,@lM d t t' k' o a) _ _ _ _ _ _) (d,t,t',k',o,a);intro d t t' k' o a e;unfold H.hM at e;dsimp only at e;split at e
 ·rename_i q;cases e;exact .u0 (ix q.1 q.2 rfl)
 ·rename_i q;exact .wl ⟨q,e⟩
theorem kN{d:H}{t:a5}{o:O}:(d.hM t o).ed t (d.gz t)=ap o:=et ⟨rfl,rfl⟩
theorem nK{d:H}{t t' k':a5}{o:O}(l:qE d t' k'):qE (d.hM t o) t' k':=by
 delta qE H.hM;dsimp only;split
 ·rfl
 ·exact l
theorem pj{d:H}{t:a5}{o:O}(f:∀t k,d.gz t<=k->d.ed t k=bk)(t' k':a5)(e:(d.hM t o).gz t'<=k'):(d.hM t o).ed t' k'=bk:=by
 unfold H.hM at e ⊢;dsimp only at e ⊢;by_cases q:t'=t
 ·subst q;replace e:=(et rfl)▸e;exact ab (dx λz=>a5.FA e z.2) (f _ _ (a5.IN e))
 ·rw[dx q]at e;exact ab (dx λz=>q z.1) (f _ _ e)
theorem nG{P:Ph}{d:H}{t t' k':a5}{a Q:e9}(dead:d.ed t (d.gz t)=bk)(l:qE d t' k'):(P.put t (d.gz t) a Q).al t' k'=P.al t' k':=dx λz=>by
 obtain⟨q1,q2⟩:=z;subst q1 q2;delta qE at l;replace l:=dead▸l;exact dP l
section
variable{D:Wd}{fr:Prop}{P:Ph}{d:H}{h h':d4}(S:iz D fr P d h){t:a5}{o:O}{a Q:e9}
include S
theorem iz.alloc(hs:∀b x,h.ck b=ap x->h'.ck b=ap x)
  (ha:h.ck a=bk) (hd:h.ck Q=bk) (i:∃o,h'.ck a=ap o) (j:∃o,h'.ck Q=ap o)
  (hn:(∀{v I},aF P d h v I->aF (P.put t (d.gz t) a Q) (d.hM t o) h' v I)->jx D (P.put t (d.gz t) a Q) (d.hM t o) h' t (d.gz t) o):
  iz D fr (P.put t (d.gz t) a Q) (d.hM t o) h'/\At bk P (P.put t (d.gz t) a Q) d (d.hM t o) h h'/\aF (P.put t (d.gz t) a Q) (d.hM t o) h' (.bs t (d.gz t)) (.bs a):=by
 haveI py:∀b o,h.ck b=ap o->¬(b=a\/b=Q):=λb o q=>by
  rintro(rfl |rfl)
  ·replace q:=ha▸q;exact dE q
  ·replace q:=hd▸q;exact dE q
 have c:∀b o,h.ck b=ap o->(P.put t (d.gz t) a Q).k0 b=P.k0 b:=λb o q=>vq (py b o q);have al:∀{t' k'},qE d t' k'->(P.put t (d.gz t) a Q).al t' k'=P.al t' k':=nG (S.fresh t _ (a5.i3 _));have X:At bk P (P.put t (d.gz t) a Q) d (d.hM t o) h h':=⟨λt' k' l=>⟨nK l,al l⟩,λb x e Z=>hs b x e,λb x M e Z Z=>⟨x.vT,hs b x e⟩,λb o e=>⟨o,hs b o e⟩,c⟩;have g:∀b M,(P.put t (d.gz t) a Q).k0 b=.f5 M->P.k0 b=.f5 M:=λb M e=>(jj e).ef (λq=>bf GX.b4 q.1 rfl) (·.1);refine⟨⟨λb t' k' q=>(jj q).ef (λz=>z.2.ef (λe=>e▸i) λe=>e▸j) λz=>(S.min b t' k' z.1).DO λo e=>hs b o e,λb M e=>S.low b M (g b M e),λf b M e=>(S.qL f b M (g b M e)).DO λo q=>⟨hs b o q.1,q.2⟩,
  λb x e=>⟨hs b x (S.tg b x e).1,(c b _ (S.tg b x e).1).trans (S.tg b x e).2⟩,λt' k' k e=>?_,pj S.fresh,S.DD.kx (λb e=>(jj e).ef (λq=>bf GX.b4 q.1 rfl) (·.1)) λb x f e=>⟨hs b x e,(c b x e).trans f⟩⟩,X,b5 a9.bs ey.symm,by delta qE;exact ab kN rfl⟩
 clear g py j i hd ha;rcases vA e with⟨rfl,rfl,rfl⟩ |⟨q,e⟩
 ·exact⟨hn λr=>r.kx X.q7,by exact ab ey DF⟩
 ·haveI r:=(S.ed t' k' k e).1;haveI w:=(S.ed t' k' k e).2;have ea:=al (by delta qE;exact ab e rfl);exact⟨r.hC (λr=>r.kx X.q7) w ea λb x n m=>⟨hs b x m,(c b x m).trans n⟩,aN (S.min _ _ _ w) λx z=>ab ea ((c _ x z).trans w)⟩
theorem iz.adopt(hs:∀b x,b≠a->h.ck b=ap x->h'.ck b=ap x)
  (hf:P.k0 a=.j2) (hE:D.hE.ck a=bk) (k:∃o,h.ck a=ap o/\o.mm≠ .fX "tuple" /\o.mm≠ .fX "slice") (s:∃o,h'.ck a=ap o)
  (hn:o8 P (P.put t (d.gz t) a a) d (d.hM t o) h h'->jx D (P.put t (d.gz t) a a) (d.hM t o) h' t (d.gz t) o):
  iz D fr (P.put t (d.gz t) a a) (d.hM t o) h'/\o8 P (P.put t (d.gz t) a a) d (d.hM t o) h h'/\(∀ad P0 gD h0,At ad P0 P gD d h0 h->h0.ck a=bk->At ad P0 (P.put t (d.gz t) a a) gD (d.hM t o) h0 h')/\aF (P.put t (d.gz t) a a) (d.hM t o) h' (.bs t (d.gz t)) (.bs a):=by
 have i:∀b,b≠a->(P.put t (d.gz t) a a).k0 b=P.k0 b:=λb q=>vq λz=>q (z.ef id id);have ne:∀b x,P.k0 b=x->x≠ .j2->b≠a:=λb x e n=>qo e hf n;refine lI k λB ga u v=>?_;have al:∀{t' k'},qE d t' k'->(P.put t (d.gz t) a a).al t' k'=P.al t' k':=nG (S.fresh t _ (a5.i3 _));have g:o8 P (P.put t (d.gz t) a a) d (d.hM t o) h h':=⟨λt' k' l=>⟨nK l,al l⟩,λb x e f c=>by
  haveI ne:b≠a:=by
   rintro rfl
   replace e:=ga▸e;clear ne f al ga i hn s k hE hf hs;cases e;exact c.ef u v
  exact⟨hs b x ne e,(i b ne).trans f⟩⟩
 have j:∀b M,(P.put t (d.gz t) a a).k0 b=.f5 M->P.k0 b=.f5 M/\b≠a:=λb M e=>(jj e).ef (λq=>bf GX.b4 q.1 rfl) λq=>⟨q.1,λz=>q.2 (.u0 z)⟩;haveI m:∀b o,D.hE.ck b=ap o->b≠a:=λb o e q=>by replace e:=hE▸q▸e;exact dE e
 refine⟨⟨λb t' k' q=>?_,λb M e=>S.low b M (j b M e).1,λf b M e=>(S.qL f b M (j b M e).1).DO λo q=>⟨hs b o (j b M e).2 q.1,q.2⟩,λb x e=>⟨hs b x (m b x e) (S.tg b x e).1,(i b (m b x e)).trans (S.tg b x e).2⟩,λt' k' C e=>?_,pj S.fresh,
  S.DD.kx (λb e=>(jj e).ef (λq=>bf GX.b4 q.1 rfl) (·.1)) λb x f e=>⟨hs b x (ne b _ f (λz=>bf GX.b4 z rfl)) e,(i b (ne b _ f (λz=>bf GX.b4 z rfl))).trans f⟩⟩,g,λad P0 gD h0 X n=>?_,b5 a9.bs ey.symm,by delta qE;exact ab kN rfl⟩
 ·clear g m j ne al v u ga B i hn k hE hf;rcases jj q with⟨_,z⟩ |⟨z,n⟩
  ·exact ab (z.ef id id) s
  ·exact(S.min b t' k' z).DO λo e=>hs b o (λy=>n (.u0 y)) e
 ·clear m j v u ga B s k hE hf;rcases vA e with⟨rfl,rfl,rfl⟩ |⟨q,e⟩
  ·exact⟨hn g,by exact ab ey DF⟩
  ·haveI r:=(S.ed t' k' C e).1;haveI w:=(S.ed t' k' C e).2;haveI ea:=al (by delta qE;exact ab e rfl);exact⟨r.hC (λr=>r.kx g) w ea λb x A E=>⟨hs b x (ne b _ A (λz=>bf GX.b4 z rfl)) E,(i b (ne b _ A (λz=>bf GX.b4 z rfl))).trans A⟩,by exact ab ea ((i _ (ne _ _ w (λz=>bf GX.b4 z rfl))).trans w)⟩
 ·have p:∀b o,h0.ck b=ap o->b≠a:=λb o e q=>by replace e:=n▸q▸e;exact dE e
  exact⟨λt' k' l=>⟨nK (X.qE t' k' l).1,(al (X.qE t' k' l).1).trans (X.qE t' k' l).2⟩,λb x e f=>hs b x (p b x e) (X.j1 b x e f),λb x M e f z=>(X.f5 b x M e f z).DO λsl q=>hs b _ (p b x e) q,
   λb x e=>(X.kG b x e).DO λF q=>hs b _ (p b x e) q,λb x e=>(i b (p b x e)).trans (X.k0 b x e)⟩
end
structure Fm(sl:am h9)(u:Cg)(vs:am V)(P:Ph)(d:H)(h:d4):Prop where
 k0:P.k0 u.gX=.f5 u.gX
 ns:∃m,h.Ns u.gX m/\∀(i:a5) (n:h9) (v:V),sl[i]?=ap n->vs[i]?=ap v->v≠ .i1->u.n1 n=ap .local->∃I,m n=ap I/\aF P d h v I
 np:∀(n:h9) (c:e9),u.np.eh n=ap c->(∃M,P.k0 c=.f5 M)/\∃x,h.wP c x
 E2:∀(i:a5) (n:h9) (v:V),sl[i]?=ap n->vs[i]?=ap v->v≠ .i1->(u.n1 n=ap .E2\/u.n1 n=ap .j2)->∃c I,u.np.eh n=ap c/\h.wP c (ap I)/\aF P d h v I
 s9:u.jp.s9=.xL
 glob:u.y0=hU
 Ly:u.r6=DQ
 uE:∀n,u.n1 n=ap .E2\/u.n1 n=ap .j2->(u.np.eh n).z_=true
structure lE(nf:a5)(sl:am h9)(u:Cg)(vs:am V)(P:Ph)(d:H)(h:d4):Prop extends Fm sl u vs P d h where
 f5:u.f5=ap u.gX
 eU:∀(n:h9) (c:e9),u.np.eh n=ap c->P.k0 c=.f5 u.gX/\c≠u.gX
 apart:∀(n n':h9) (c:e9),u.np.eh n=ap c->u.np.eh n'=ap c->n=n'
 has:∀(i:a5) (n:h9),i<nf->sl[i]?=ap n->u.n1 n=ap .local\/(u.n1 n=ap .E2/\(u.np.eh n).z_=true)
 nd:∀(i j:a5) (n:h9),i<nf->j<nf->sl[i]?=ap n->sl[j]?=ap n->i=j
 GQ:∀(j:a5) (v:V),nf<=j->vs[j]?=ap v->v=.i1
section
variable{D:Wd}{P P':Ph}{d U:H}{h h':d4}{sl:am h9}{u:Cg}{vs:am V}{nf:a5}
theorem Ns.vT{ad:e9}{m:h9->bS a9}(hn:h.Ns ad m)(x:∀o,h.ck ad=ap o->∃sl,h'.ck ad=ap {o with vT:=sl}):h'.Ns ad m:=
 rL hn λo es a b hd r=>(x o b).ef λsl e=>G_ _ es a e hd r
theorem wP.vT{c:e9}{v:bS a9}(hn:h.wP c v)(x:∀o,h.ck c=ap o->∃sl,h'.ck c=ap {o with vT:=sl}):h'.wP c v:=
 ar hn λo a hd=>(x o a).ef λsl e=>aR _ e hd
theorem Fm.kx(F:Fm sl u vs P d h)(x:At bk P P' d U h h'):Fm sl u vs P' U h':=by
 refine ar F.ns λm hn k=>?_;have f:∀{c M y},P.k0 c=.f5 M->h.wP c y->h'.wP c y:=λo q=>wP.vT q λob e=>x.f5 _ ob _ e o (λz=>oP z);refine⟨(ED hn λo Z Z e Z=>(x.k0 _ o e).trans F.k0),⟨m,Ns.vT hn λo e=>x.f5 _ o _ e F.k0 (λz=>oP z),λi n v a b c Q=>(k i n v a b c Q).DO λI z=>⟨z.1,z.2.kx x.q7⟩⟩,λn c a=>?_,λi n v a b c Q=>?_,F.s9,F.glob,F.Ly,F.uE⟩
 ·obtain⟨⟨M,o⟩,y,q⟩:=F.np n c a;exact⟨⟨M,by exact ar q λl e Z=>(x.k0 _ l e).trans o⟩,y,f o q⟩
 ·exact dQ (F.E2 i n v a b c Q) λg I j p r=>eN g I j ((F.np n g j).1.ef λZ o=>f o p) (r.kx x.q7)
theorem lE.kx(F:lE nf sl u vs P d h)(x:At bk P P' d U h h'):lE nf sl u vs P' U h':=
 ⟨F.toFm.kx x,F.f5,λn c a=>⟨(F.np n c a).2.ef λZ z=>z.ef λb z=>(x.k0 _ b z.1).trans (F.eU n c a).1,(F.eU n c a).2⟩,F.apart,F.has,F.nd,F.GQ⟩
end
structure GO(D:Wd)(t:a5):Prop where
 LL:∀n,plainGet D.K (D.mm t) n=true
 Iv:hasDictIn D.K (D.mm t)=true
 rE:plainOver D.K (D.mm t)=true
 EV:H5 D.K (.bs (D.mm t)) "__setattr__" =ap (ap (.eu "object.__setattr__"))
 hy:∀n,(D.H4 t).b6 n=true->H5 D.K (.bs (D.mm t)) (D.ev n)=ap bk
 eq:H5 D.K (.bs (D.mm t)) "__eq__" =ap (ap (.eu "object.__eq__"))
 Kj:mroIn D.K (D.mm t) (.fX "object")=ap true
structure Ok(D:Wd):Prop where
 dW:D.K.In D.hE
 top:∃p zm mg mb,TopRead p zm mg mb D.hE
 zv:∀t t' a b,(D.H4 t).b6 a=true->(D.H4 t').b6 b=true->D.ev a=D.ev b->a=b
 mm:∀t a,(D.H4 t).b6 a=true->GO D t
 sys:∃o,D.hE.ck sysModules=ap o
structure iB(x:a5)(lp:ct)(A:ec)(P:Ph)(h:d4)(Q:a5):Prop where
 un:∃l,A.un=ap l/\∀e∈l,e.jp.s9≠ .module/\∃ad o,e.f5=ap ad/\P.k0 ad=.f5 ad/\h.ck ad=ap o/\∀vs,o.hy≠ .j3 vs
 Lw:A.Lw+2*Q+x<=900
 FD:A.FD+40*Q+10*x<=9000
 hd:lp=true->A.z4=bk
 gd:A.Iz=ap []
structure Rm(A:ec):Prop where
 FD:A.FD<=9000
 gd:A.Iz=ap []
abbrev Ac:=iB 1
section
variable{D:Wd}{y:a5}{lp:ct}{A:ec}{P P' cS:Ph}{d U ay:H}{h h':d4}{Q:a5}{ad:bS e9}
theorem iB.room(a:iB y lp A P h Q):Rm A:=⟨a5.bb (a5.bb (a5.f0 _ _) (a5.f0 _ _)) a.FD,a.gd⟩
theorem iB.kx(a:iB y lp A P h Q)(x:At ad P P' d U h h')(p:∀M o,ad=ap M->h.ck M=ap o->(∀vs,o.hy≠ .j3 vs)->∃b,h'.ck M=ap b/\∀vs,b.hy≠ .j3 vs):iB y lp A P' h' Q:=by
 refine aD λr c=>ar a.un λl s t=>?_;apply c;refine⟨⟨l,s,λe u=>aD λr c=>?_⟩,a.Lw,a.FD,a.hd,a.gd⟩;obtain⟨k,M,o,i,j,f,m⟩:=t e u;apply c;haveI n:=(x.k0 _ _ f).trans j;by_cases q:ap M=ad
 ·exact(p M o q.symm f m).ef λb g=>⟨k,M,b,i,n,g.1,g.2⟩
 ·exact(x.f5 M o M f j q).ef λsl g=>⟨k,M,_,i,n,g,m⟩
theorem iB.mr(a:iB y lp A P h Q)(x:At bk P P' d U h h'):iB y lp A P' h' Q:=a.kx x λZ Z e=>dE e
theorem iB.ng(a:Ac lp A P h Q):iB 0 lp A P h Q:=⟨a.un,by have:=a.Lw;exact a5.l6 (by assumption),by have:=a.FD;exact a5.bb (a5.f0 _ _) (by assumption),a.hd,a.gd⟩
end
structure v9(D:Wd)(ad:bS e9)(A:ec)(c:a5)(P P':Ph)(d U:H)(h:d4)(s':a6)(ea:e9)(B:d4):Prop where
 zD:∃a0 l,A.un=ap l/\d4.FlyingW B l ea (.bs (D.mm c)) a0 s'.bh
 st:iz D uk P' U B
 fr:∀b M,P'.k0 b=.f5 M->∃o,s'.bh.ck b=ap o/\∀vs,o.hy≠ .j3 vs
 ext:At ad P P' d U h s'.bh
 j1:∀b o,h.ck b=ap o->P.k0 b=.j2->B.ck b=ap o
 r:s'.gens=D.gens/\s'.drawn=D.drawn/\s'.os=D.os/\D.lv
def eC(D:Wd)(ad:bS e9)(A:ec)(c:a5)(P P':Ph)(d U:H)(h:d4)(e:a9)(s':a6):Prop:=∃ea B,e=.bs ea/\v9 D ad A c P P' d U h s' ea B
section
variable{α β γ δ:Type}{D:Wd}{ad:bS e9}{A:ec}{VR:α->β->Ph->H->d4->Prop}{Mw:γ->δ->Ph->H->d4->Prop}{P P' cS:Ph}{d U ay:H}{s s':a6}
theorem eC.Lz{c:a5}{h h':d4}{e:a9}(x:At ad P P' d U h h')(y:eC D ad A c P' cS U ay h' e s'):eC D ad A c P cS d ay h e s':=
 aO y λea B a z=>⟨ea,B,a,z.zD,z.st,z.fr,x.trans z.ext,λb o q w=>z.j1 b o (x.j1 b o q w) ((x.k0 b _ q).trans w),z.r⟩
def dM(D:Wd)(ad:bS e9)(A:ec)(VR:α->β->Ph->H->d4->Prop)(P:Ph)(d:H)(s:a6)(r:R α)(E:β->a6->Prop)(L:a9->a6->Prop):Prop:=match r with
 | .ok a U=>∀b s' P',St D P' U s'->At ad P P' d U s.bh s'.bh->VR a b P' U s'.bh->E b s'
 | .exc c U=>∀e s' P',eC D ad A c P P' d U s.bh e s'->L e s'
def aC(D:Wd)(ad:bS e9)(A:ec)(VR:α->β->Ph->H->d4->Prop)(P:Ph)(d:H)(s:a6)(r:R α)(t:xE β):Prop:=∀E L,dM D ad A VR P d s r E L->ch (dd D.bZ D.w) A t E L s
def AZ(D:Wd)(A:ec)(P:Ph)(d:H)(s:a6)(r:R V)(c:KM):Prop:=
 ∀(E:r3->a6->Prop),dM D bk A (λv I P d h=>aF P d h v I) P d s r (λI=>E (.ok (.ret I))) (λe=>E (.B3 e))->az (dd D.bZ D.w) A c E s
abbrev VS(v:V)(I:a9)(P:Ph)(d:H)(h:d4):Prop:=aF P d h v I
abbrev NU(v:am V)(I:am a9)(P:Ph)(d:H)(h:d4):Prop:=aA P d h v I
abbrev VB(b:ct)(b':ct)(_:Ph)(_:H)(_:d4):Prop:=b'=b
theorem dM.Lz{r:R α}{E:β->a6->Prop}{L:a9->a6->Prop}(k:dM D ad A VR P d s r E L)(x:At ad P P' d U s.bh s'.bh):dM D ad A VR P' U s' r E L:=match r,k with
 | .ok _ _,k=>λb a cS S X v=>k b a cS S (x.trans X) v
 | .exc _ _,k=>λe a cS z=>k e a cS (z.Lz x)
theorem aC.tb{a:α}{r:R γ}{t:xE β}{g:β->xE δ}(x:aC D ad A VR P d s (.ok a U) t)(y:∀b s' P',St D P' U s'->At ad P P' d U s.bh s'.bh->VR a b P' U s'.bh->aC D ad A Mw P' U s' r (g b)):aC D ad A Mw P d s r (t>>=g):=
 λE L k=>aa (x _ L λb s' P' S X v=>y b s' P' S X v E L (k.Lz X))
theorem aC.Jj{c:a5}{t:xE β}{g:β->xE δ}(x:aC D ad A VR P d s (.exc c U) t):aC D ad A Mw P d s (.exc c U) (t>>=g):=λE L k=>aa (x _ L k)
theorem aC.h8(S:St D P d s){a:α}{b:β}(v:VR a b P d s.bh):aC D ad A VR P d s (.ok a d) (h8 b):=λZ Z k=>af (k b s P S .hJ v)
theorem aC.ff{r:R α}{t:xE β}{vs:am a9}(x:aC D ad A VR P d s r t):aC D ad A VR P d s r (ff vs t):=λE L k=>ak (x E L k)
theorem aC.aU{r:R α}{t:y5->xE β}{bv:Dx}(x:aC D ad A VR P d s r (t ())):aC D ad A VR P d s r (kK bv>>=t):=λE L k=>aa (ax (x E L k))
theorem aC.zl{r:R V}{t:xE a9}{vs:am a9}(x:aC D ad A VS P d s r t):aC D ad A VS P d s r (a8.zl vs t):=λE L k=>mL (x E L k)
theorem aC.sy{r:R α}{t:xE β}{k:β->xE β}(x:aC D ad A VR P d s r t)(a:∀b (E:β->a6->Prop) (L:a9->a6->Prop) s',E b s'->ch (dd D.bZ D.w) A (k b) E L s'):aC D ad A VR P d s r (t>>=k):=
 λE L z=>aa (x _ L (match r,z with | .ok _ _,z=>λb s' P' S X v=>a b E L s' (z b s' P' S X v) | .exc _ _,z=>z))
theorem AZ.sim{r:R V}{f:a9}{db:am a9}(x:AZ D A P d s r (.ng f ⟨db,[]⟩)):aC D bk A VS P d s r (a8.ng f db []):=λE L k=>aT (x _ (match r,k with | .ok _ _,k=>k | .exc _ _,k=>k))
theorem St.tok(S:St D P d s)(t:a5):St D P d {s with hO:=t}:=⟨S.h,S.r⟩
theorem aC.hO{a:α}{t:xE β}(S:St D P d s)(h:∀(E:β->a6->Prop) (L:a9->a6->Prop),(∀b k,VR a b P d s.bh->E b {s with hO:=k})->ch (dd D.bZ D.w) A t E L s):aC D ad A VR P d s (.ok a d) t:=
 λE L k=>h E L λb n v=>k b _ P (S.tok n) .hJ v
theorem aC.DK{r:R α}{I:xE γ}{c:γ}{t:γ->xE β}(l:r5 (dd D.bZ D.w) s.bh I c)(x:aC D ad A VR P d s r (t c)):aC D ad A VR P d s r (I>>=t):=λE L k=>aa (cl (l.here (x E L k)))
end
def tI:KF->V
 | .bk=> .bk
 | .gg b=> .gg b
 | .bn i=> .bn i
 | .J6 s=> .J6 s.cps.q6
 | .d3 b=> .d3 b
 |_=> .i1
section
variable{D:Wd}{A:ec}{P P':Ph}{d U:H}{s:a6}{h h':d4}
theorem wq(S:St D P d s){c:KF}{u:Cg}(a:tI c≠ .i1):aC D bk A VS P d s (.ok (tI c) d) (constValue u c):=by
 cases c with
 |bk=>exact aC.h8 S rfl
 |gg b=>exact aC.h8 S rfl
 |bn i=>exact aC.hO S λE L k=>cl (wpAny_mkInt (k _ _ ⟨_,rfl⟩))
 |J6 x=>exact aC.hO S λE L k=>cl (wpAny_mkText (k _ _ ⟨_,rfl⟩))
 |d3 b=>exact aC.hO S λE L k=>cl (wpAny_mkTextBytes (k _ _ ⟨_,rfl⟩))
 |_=>exact kk rfl a
theorem FJ{sl:am h9}{u:Cg}{vs:am V}(F:Fm sl u vs P d s.bh){i:a5}{id:h9}{v:V}(hn:sl[i]?=ap id)(a:vs[i]?=ap v)(b:v≠ .i1)
  (e:u.n1 id=ap .local\/u.n1 id=ap .E2\/u.n1 id=ap .j2) (f:(id==("__classdict__" :h9))=false):
  ∃I,aF P d s.bh v I/\∀(E:a9->a6->Prop) (L:a9->a6->Prop),E I s->a8.ch (dd D.bZ D.w) A (loadName u id) E L s:=by
 refine ar F.ns λm ns g=>?_;rcases e with hl |hl |hl
 ·exact(g i id v hn a b hl).DO λI z=>⟨z.2,λE L q=>DT F.s9 hl ns z.1 q⟩
 ·exact(F.E2 i id v hn a b (.u0 hl)).ef λc z=>z.DO λI z=>⟨z.2.2,λE L q=>wpAny_loadName_cell F.s9 hl z.1 z.2.1 q⟩
 ·exact(F.E2 i id v hn a b (.wl hl)).ef λc z=>z.DO λI z=>⟨z.2.2,λE L q=>wpAny_loadName_free F.s9 hl z.1 z.2.1 q f⟩
theorem Bs(S:St D P d s){sl:am h9}{u:Cg}{vs:am V}(F:Fm sl u vs P d s.bh){i:a5}{id:h9}{v:V}{bv:Dx}(hn:sl[i]?=ap id)(a:vs[i]?=ap v)(b:v≠ .i1)
  (c:u.n1 id=ap .local\/u.n1 id=ap .E2\/u.n1 id=ap .j2) (hd:(id==("__debug__" :h9))=false) (e:(id==("__classdict__" :h9))=false):
  aC D bk A VS P d s (.ok v d) (a8.pa (.r0 id bv) u):=λE L k=>
 (FJ F hn a b c e).ef λI z=>cl (wpAny_Name (z.2 E L (k I s P S .hJ z.1)) hd)
theorem Jt{x:b0}(q:aP x):x.natAbs<2^64:=by
 cases x with
 |kP n=>exact a5.uo (b0.hB.mp q.2) av
 |negSucc n=>
  have z:=b0.neg_lt_neg q.1;rw[b0.neg_neg]at z;exact a5.uo (b0.hB.mp z) av
theorem rI{x:b0}(q:0<=x):¬0<= -x - 1:=b0.Km.ow (b0.sub_neg_of_lt (b0.fp (b0.neg_nonpos_of_nonneg q) (by decide)))
theorem nM{x:b0}: -(-x - 1) - 1=x:=by rw[b0.neg_sub,b0.sub_neg,b0.tz 1 x,b0.ur]
section
variable(S:St D P d s){x y:b0}{t I:Tok}
include S
theorem eQ{z:b0}{a:xE a9}(h:∀(E:a9->a6->Prop) (L:a9->a6->Prop),(∀n,E (.bn z n) {s with hO:=s.hO+1})->a8.ch (dd D.bZ D.w) A a E L s):aC D bk A VS P d s (.ok (.bn z) d) a:=
 aC.hO S λE L k=>cl (h E L λn=>k _ _ ⟨_,rfl⟩)
theorem Bz:aC D bk A VS P d s (.ok (.bn (x+y)) d) (DU .s0 (.bn x t) (.bn y I)):=eQ S λE L k=>PyProof.Rows.add_int (k _)
theorem Bt:aC D bk A VS P d s (.ok (.bn (x - y)) d) (DU .Sub (.bn x t) (.bn y I)):=eQ S λE L k=>sub_int' (k _)
theorem Bw(q:aP x):aC D bk A VS P d s (.ok (.bn (x*y)) d) (DU .H3 (.bn x t) (.bn y I)):=eQ S λE L k=>
 mul_int (k _) (a8.IntMulOk.of_left (a8.intBits_le_64 (b0.uo (by decide) q.1) (by have:=q.2;exact b0.bb (by assumption) (by decide))))
theorem yh(q:0<y)(a:y<1000000000):aC D bk A VS P d s (.ok (.bn (x/y)) d) (DU .zn (.bn x t) (.bn y I)):=eQ S λE L k=>
 floordiv_int (b0.FA q) (ab (b0.fdiv_eq_ediv_of_nonneg x (b0.l6 q)) (k _)) (Or.u0 (PyProof.noPylong_small (b0.hB.mp (b0.fp (b0.mZ (b0.natAbs_of_nonneg (b0.l6 q))) (b0.uo a (by decide))))))
theorem Bx(q:0<y):aC D bk A VS P d s (.ok (.bn (x % y)) d) (DU .Mod (.bn x t) (.bn y I)):=eQ S λE L k=>
 mod_int' (b0.FA q) (ab (b0.fmod_eq_emod_of_nonneg x (b0.l6 q)) (k _))
theorem Bv(q:aP x)(q1:0<=y)(q2:y<=64):aC D bk A VS P d s (.ok (.bn (x*2^y.fo)) d) (DU .LShift (.bn x t) (.bn y I)):=eQ S λE L k=>
 lshift_int_small q1 (b0.bb q2 (by decide)) (Jt q) (k _)
theorem Bu(q1:0<=y):aC D bk A VS P d s (.ok (.bn (x/2^y.fo)) d) (DU .RShift (.bn x t) (.bn y I)):=eQ S λE L k=>
 rshift_int q1 (by rw[b0.fdiv_eq_ediv_of_nonneg x (b0.l6 (b0.pow_pos (by decide)))];exact k _)
theorem yg(q:0<=x)(a:0<=y):aC D bk A VS P d s (.ok (.bn (b0.kP (x.fo&&&y.fo))) d) (DU .GZ (.bn x t) (.bn y I)):=eQ S λE L k=>and_int (ab (bitAnd_pp q a) (k _))
theorem By(q:0<=x)(a:0<=y):aC D bk A VS P d s (.ok (.bn (b0.kP (x.fo |||y.fo))) d) (DU .BitOr (.bn x t) (.bn y I)):=eQ S λE L k=>or_int (by
 haveI e:l7.bitOr x y=b0.kP (x.fo |||y.fo):=by
  unfold l7.bitOr;refine ab (bitAnd_nn (rI q) (rI a)) ?_;simp only[l7.bitNot];refine ab (show(-(-x - 1) - 1)=x from nM) (ab (show(-(-y - 1) - 1)=y from nM) ?_);exact nM
 exact ab e (k _))
end
def nX:am (a5×V)->a5->bS V
 | [],_=>bk
 |p::r,k=>if p.1=k then ap p.2 else nX r k
def oY:am (a5×V)->a5->V->am (a5×V)
 | [],k,v=> [(k,v)]
 |p::r,k,v=>if p.1=k then(p.1,v)::r else p::oY r k v
theorem pD{p:a5×V}{r:am (a5×V)}{k:a5}:nX (p::r) k=if p.1=k then ap p.2 else nX r k:=rfl
theorem aF.flat{v:V}{I:a9}(r:aF P d h v I):handedIn I=true:=by
 cases v with
 |i1=>exact r.ef
 |bk=>exact ab r rfl
 |gg b=>exact ab r rfl
 |bn i=>exact r.ef λZ e=>e▸rfl
 |J6 x=>exact r.ef λZ e=>e▸rfl
 |d3 b=>exact r.ef λZ e=>e▸rfl
 |KS l=>exact r.ef λZ e=>e.ef λZ e=>e.1▸rfl
 |bs t k=>exact ab r.1 rfl
theorem pA{a:h9}{x:h9}{e:vB}{r:am vB}{t:Tok}(b:e.key=.J6 a t):getL x (e::r)=if a=x then ap (ap e.val)else getL x r:=by
 haveI c:e.key.isStr x=(a==x):=by rw[b];rfl
 haveI kr:e.refKey=false:=by simp[vB.refKey,b]
 unfold getL;refine(am.find?_cons)▸am.any_cons▸c▸kr▸?_;by_cases q:a=x
 ·exact ab (et q) (ab (wn.ow q) rfl)
 ·rw[dx q,ki.ow q];rfl
theorem wz{a x:h9}{e:vB}{r:am vB}{t:Tok}{n:b0}{key v:a9}(b:e.key=.J6 a t):putL x n key v (e::r)=if a=x then{e with val:=v}::r else e::putL x n key v r:=by
 haveI c:e.key.isStr x=(a==x):=by rw[b];rfl
 rw[putL];refine ab c ?_;by_cases q:a=x
 ·exact ab (et q) (ab (et (wn.ow q)) rfl)
 ·exact ab (dx q) (ab (dx (λz=>q (wn.mp z))) rfl)
theorem iA.find{n:a5}{v:V}:∀{fs:am (a5×V)} {es:am vB},iA D P d h fs es->nX fs n=ap v->(∀a,a∈fs.hC (·.1)->D.ev a=D.ev n->a=n)->
  ∃I,getL (D.ev n) es=ap (ap I)/\aF P d h v I:=by
 intro b
 induction b with
 |iv=>
  intro Z Z e Z;exact dE e
 |d2 p fs c=>
  intro Z r g zv;obtain⟨e,r,rfl,⟨t,f⟩,i,j⟩:=r;refine ab (pA f) ?_;replace g:=pD▸g;by_cases q:p.1=n
  ·replace g:=(et q)▸g;cases g;exact aR e.val (et (b5 D.ev q)) i
  ·replace g:=(dx q)▸g;exact ab (dx λz=>q (zv _ (.sk _) z)) (c j g λa m z=>zv a (.sy _ m) z)
theorem iA.bk{x:h9}:∀{fs:am (a5×V)} {es:am vB},iA D P d h fs es->(∀a,a∈fs.hC (·.1)->D.ev a≠x)->getL x es=ap bk:=by
 intro b
 induction b with
 |iv=>
  intro Z e Z;exact e▸rfl
 |d2 p fs c=>
  intro Z r q;obtain⟨e,r,rfl,⟨t,f⟩,i,g⟩:=r;refine((pA f)).trans (ab (dx (q _ (.sk _))) ?_);exact c g λa m=>q a (.sy _ m)
theorem iA.ER:∀{fs:am (a5×V)} {es:am vB},iA D P d h fs es->es.ah=fs.ah:=by
 intro a
 induction a with
 |iv=>
  intro Z e;exact e▸rfl
 |d2 _ _ b=>
  intro Z r;refine iy r λe s c Z Z f=>?_;clear r;subst c;exact b5 a5.Fy (b f)
theorem iA.keys:∀{fs:am (a5×V)} {es:am vB},iA D P d h fs es->∀en∈es,en.refKey=false:=by
 intro b
 induction b with
 |iv=>
  intro Z e en m;obtain rfl:_=[]:=e;exact bC m
 |d2 _ _ c=>
  intro Z r en m;refine aD λi a=>?_;obtain⟨e,s,rfl,⟨t,f⟩,_,g⟩:=r;rcases am.hD.mp m with rfl |q<;>refine a ?_<;>clear a
  ·simp[vB.refKey,f]
  ·exact c g en q
theorem iA.put{f:b0}{tk:Tok}{n:a5}{v:V}{I:a9}(g:∀{v I},aF P d h v I->aF P' U h' v I)(q:aF P' U h' v I):∀{fs:am (a5×V)} {es:am vB},iA D P d h fs es->(∀a,a∈fs.hC (·.1)->D.ev a=D.ev n->a=n)->
  iA D P' U h' (oY fs n v) (putL (D.ev n) f (.J6 (D.ev n) tk) I es):=by
 intro i
 induction i with
 |iv=>
  intro Z e Z;obtain rfl:_=[]:=e;exact nj _ _ rfl ⟨tk,rfl⟩ q rfl
 |d2 p fs j=>
  intro Z r zv;refine aD λo k=>?_;obtain⟨e,r,rfl,⟨t,b⟩,l,c⟩:=r;apply k;refine ab (wz b) ?_;show iA D P' U h' (if p.1=n then(p.1,v)::fs else p::oY fs n v) _;by_cases z:p.1=n
  ·exact ab (et z) (ab (et (b5 D.ev z)) (nj _ _ rfl ⟨t,b⟩ q (c.hC g)))
  ·exact ab (dx z) (ab (dx λy=>z (zv _ (.sk _) y)) (nj _ _ rfl ⟨t,b⟩ (g l) (j c λa m y=>zv a (.sy _ m) y)))
theorem zH{n:a5}{v:V}:∀{fs:am (a5×V)},nX fs n=ap v->n∈fs.hC (·.1):=by
 intro a
 induction a with
 |iv=>
  intro e;exact dE e
 |d2 p fs b=>
  intro e;rw[pD]at e;by_cases q:p.1=n
  ·exact lG q (.sk _)
  ·rw[dx q]at e;exact .sy _ (b e)
theorem zC{n:a5}{v:V}{a:a5}:∀{fs:am (a5×V)},a∈(oY fs n v).hC (·.1)->a∈fs.hC (·.1)\/a=n:=by
 intro b
 induction b with
 |iv=>
  exact λe=>(am.e0.mp e)▸.wl rfl
 |d2 p fs c=>
  intro e;replace e:a∈(if p.1=n then(p.1,v)::fs else p::oY fs n v).hC (·.1):=e;by_cases q:p.1=n
  ·rw[et q]at e;exact .u0 e
  ·rw[dx q]at e;rcases am.hD.mp e with e |e
   ·exact .u0 (ab e (.sk _))
   ·exact(c e).DO (.sy _) id
theorem yv(wQ:h9)(a:b0)(key v:a9):∀es:am vB,(putL wQ a key v es).ah<=es.ah+1:=by
 intro b
 induction b with
 |iv=>
  exact a5.i3 _
 |d2 e r c=>
  unfold putL
  split
  ·exact a5.IO _
  ·exact a5.ic (c)
theorem St.dW(S:St D P d s)(O:Ok D):D.K.In s.bh:=λa o e=>(S.h.tg a o (O.dW a o e)).1
abbrev St.ug{t k:a5}{fs:am (a5×V)}:Prop:=∀(S:St D P d s) (e:d.ed t k=ap (.qD fs)),∃Q es n,InstAt s.bh (P.al t k) (KP (D.mm t) Q) (D.mm t) (ap (Eb es n))/\
  iA D P d s.bh fs es/\(∀a,a∈fs.hC (·.1)->(D.H4 t).b6 a=true)/\P.k0 (P.al t k)=.d9 t k/\P.k0 Q=.d9 t k/\Q≠P.al t k
theorem St.qD:∀{D P d s t k fs},@St.ug D P d s t k fs:=by refine λ{D P d s t k fs}=>cK (q:=tG @St.ug) ((?_:∀D P d s t k fs,@St.ug D P d s t k fs) _ _ _ _ _ _ _) (D,P,d,s,t,k,fs);intro D P d s t k fs S e;refine aD λj a=>?_;obtain⟨⟨Q,es,n,b,c,f,g,h,i⟩,w⟩:=S.h.ed t k _ e;apply a;exact EB Q es n ⟨b,rfl,rfl,c⟩ i h w f g
theorem rY(O:Ok D)(S:St D P d s){t k:a5}{fs:am (a5×V)}{v:V}{n:a5}{f:ct}(e:d.ed t k=ap (.qD fs))(b:nX fs n=ap v):aC D bk A VS P d s (.ok v d) (getAttr (.bs (P.al t k)) (D.ev n) f):=by refine aD λj g=>?_;obtain⟨Q,es,m,be,h,at_, -⟩:=S.qD e;have hn:=at_ n (zH b);haveI C:=O.mm t n hn;refine ar (h.find b λa ha z=>O.zv t t a n (at_ a ha) hn z) λw i c=>?_;apply g;exact aC.hO S λE L k=>cl (get_value (S.dW O) be (plainGet_of (C.LL (D.ev n))).1 (findObj_own C.Iv (C.hy n hn) rfl (by exact i)) c.flat (k _ _ c))
theorem iz.Ku{fr:Prop}{t k:a5}{a o:O}{Q:e9}(S:iz D fr P d h)(c:d.ed t k=ap a)(e:P.k0 Q=.d9 t k)(hs:d4.nT Q h h')(f:∃g,h'.ck Q=ap g)
  (hn:d4.nT Q h h'->(∀{v I},aF P d h v I->aF P (d.fC t k o) h' v I)->jx D P (d.fC t k o) h' t k o):iz D fr P (d.fC t k o) h'/\At bk P P d (d.fC t k o) h h':=
 S.change c (λb x q z=>(hs.2 b λy=>q (ab y e)).trans z) (λb x q=>by
  by_cases z:b=Q
  ·exact ab z f
  ·exact⟨x,(hs.2 b z).trans q⟩) (hn hs)
abbrev jT{t k:a5}{fs:am (a5×V)}{v:V}{w:a9}{n:a5}:Prop:=∀(O:Ok D) (S:St D P d s) (e:d.ed t k=ap (.qD fs)) (hn:(D.H4 t).b6 n=true) (a:fs.ah<200) (b:aF P d s.bh v w),aC D bk A (λZ Z Z Z Z=>Fw) P d s (.ok () (d.fC t k (.qD (oY fs n v)))) (setAttr (.bs (P.al t k)) (D.ev n) w)
theorem rW:∀{D A P d s t k fs v w n},@jT D A P d s t k fs v w n:=by
 refine λ{D A P d s t k fs v w n}=>cK (q:=Dy @jT) ((?_:∀D A P d s t k fs v w n,@jT D A P d s t k fs v w n) _ _ _ _ _ _ _ _ _ _ _) (D,A,P,d,s,t,k,fs,v,w,n);intro D A P d s t k fs v w n O S e hn y l;refine Ha (S.qD e) λQ es m be c at_ B o2 i=>?_;haveI C:=O.mm t n hn;intro E L k';haveI dW:=S.dW O;refine cl (set_plain dW be C.EV (osa_open dW be C.rE (by delta KT;rw[C.hy n hn];rfl) λb=>?_));haveI f:=be.BT;refine ar (any_some C.Iv) λcd p r=>?_;refine a8.a7 (a8.cp (a8.a7 (a8.a7 (a8.H6 be.at_ ?_))));refine a8.a7 (looks_clsIn dW p _ _ _ _ (λZ Z e=>e) ?_);rw[r];refine a8.cp (a8.a7 (a8.cp (a8.a7 ?_)));refine a8.a7 (a8.a7 (a8.wpAny_askSetting (a8.cp (a8.a7 (a8.wpAny_mkText (a8.a7 (a8.H6 f ?_)))))));haveI u:aRefKeyMayBeTheName (D.ev n) es.eb=false:=by
  rw[aRefKeyMayBeTheName_at,show es.eb.any (·.refKey)=false by apply(rv.any_toList.symm).trans;rw[am.any_eq_false];intro en x;refine(c.keys en x)▸?_;exact ct.wT,ct.and_false]
 dsimp only;refine ab u ?_;haveI hf:=λtk=>putName_dict (D.ev n) (PyData.keyHash D.w.params (D.ev n)) (.J6 (D.ev n) tk) w es m;refine a8.wpAny_updatePart f ?_;haveI F:=yv (D.ev n) (PyData.keyHash D.w.params (D.ev n)) (.J6 (D.ev n) (s.hO+1)) w es;haveI G:=c.ER;haveI h:=(d4.mv (Do.putName (D.ev n) (PyData.keyHash D.w.params (D.ev n)) (.J6 (D.ev n) (s.hO+1)) w) f (by rw[hf];rfl)).trans (b5 ap (hf _));refine a8.a7 (a8.IC h (pastItsLine_dict (by refine ab am.lb (ab ut ?_);lia)) (a8.cp ?_));haveI j:=S.h.Ku (o:=.qD (oY fs n v)) e o2 (.G0 (s.bh) ..) ⟨_,h⟩ λhs g=>(EB Q _ _ ((hs.2 _ (Ne.symm i)).trans be.at_) h o2 i (λa ha=>(zC ha).ef (at_ a) λq=>q▸hn) (c.put g (g l) λa ha z=>O.zv t t a n (at_ a ha) hn z));exact k' () _ P ⟨j.1,S.r⟩ j.2 trivial
end
inductive X where
 |KI |omit |c (c:KF) |v (i:a5) |g (c:KF) |a (e:X) (n:a5) |b (o:x0) (l r:X) |nt (e:X) |bo (isAnd:ct) (es:am X)
 |mc (o:FH) (l r:X) |ju (o p:FH) (l m r:X) |qC (t a b:X) |ls (es:am X) |tp (es:am X) |dc (ks:am h9) (vs:am X)
 |f (eo:a5) (es:am X) |k (cid:a5) (es:am X) |bi (n:a5) (es:am X) |mu (e:X) |ss (e:X) |m (o:X) (mid:a5) (es:am X)
 |s (o i:X) |sl (o lo hi:X) |lc (el:X) (oa:a5) (it:X) (cs:am X) |met (fm:a5) (e:X) |er (es:am X) |pI (e:X) |rev (e:X)
inductive T where
 |v (i:a5) |a (e:X) (n:a5) |s (o i:X) |sl (o lo hi:X)
inductive S where
 |KI |as (t:T) (e:X) |asc (i:a5) (e:X) |ast (ts:am T) (e:X) |NN (is:am a5) (e:X) |ag (i:a5) (o:x0) (e:X) |je (q:X) (n:a5) (o:x0) (e:X) |ex (e:X) |xD (t:X) (a b:am S) |wh (t:X) (b:am S)
 |fr (ps:am a5) (it:X) (b:am S) |oX (i:a5) (it:X) (b:am S) |rt (e:X) |xB |rs (c:a5) (e:X) |rr |dl (o i:X) |br |tr (b:am S) (c:a5) (hs:am S) |G2 (i:a5) (ps:am a5) (it:X) (b:am S)
structure Fn where
 zs:a5
 dflt:am KF
 nf:a5
 lam:ct
 sl:am h9
 lV:am S
instance:ru X:=⟨.v 0⟩
instance:ru T:=⟨.v 0⟩
instance:ru S:=⟨.xB⟩
instance:ru Fn:=⟨⟨0,[],0,true,[],[]⟩⟩
inductive Gl where
 |fn (f:a5) |mm (t:a5) |val (c:KF) |Ly (n:a5)
def Gl.is:Gl->Gl->ct
 | .fn a,y=>match y with | .fn b=>a==b |_=>false
 | .mm a,y=>match y with | .mm b=>a==b |_=>false
 | .val a,y=>match y with | .val b=>a==b |_=>false
 | .Ly a,y=>match y with | .Ly b=>a==b |_=>false
theorem Gl.HY{x y:Gl}(h:x.is y=true):x=y:=by cases x<;>cases y<;>first |exact b5 _ (cx h) |exact dP h
structure Cx where
 sl:am h9
 kd:h9->bS nc
 J1:ct
instance:ru Cx:=⟨⟨[],λZ=>bk,true⟩⟩
def on{α:Type}(x:bS α)(f:α->ct):ct:=match x with |ap a=>f a |bk=>false
theorem cU{α:Type}{x:bS α}{f:α->ct}(h:on x f=true):∃a,x=ap a/\f a=true:=match x,h with |ap a,h=>aR a rfl h
def aZ{α:Type}{P:α->Prop}(x:bS {p:α//P p})(f:α->ct):ct:=match x with |ap a=>f a.1 |bk=>false
theorem aj{α:Type}{P:α->Prop}{x:bS {p:α//P p}}{f:α->ct}(h:aZ x f=true):∃p,P p/\f p=true:=match x,h with |ap a,h=>aR a.1 a.2 h
theorem ao{a b:ct}(h:(a&&b)=true):a=true:=(ct.pn.mp h).1
theorem ai{a b:ct}(h:(a&&b)=true):b=true:=(ct.pn.mp h).2
section
variable(e:fY)
abbrev GD:={p:h9×Dx//e=.r0 p.1 p.2}
def eO:bS (GD e):=if h:e.b4=23 then fY.r0.ef e h λa x1=>ap ⟨(a,x1),rfl⟩else bk
abbrev Dn:={p:KF×a5×Dx//e=.Constant p.1 p.2.1 p.2.2}
def nh:bS (Dn e):=if h:e.b4=19 then fY.Constant.ef e h λa x1 b=>ap ⟨(a,x1,b),rfl⟩else bk
abbrev GJ:={p:fY×h9×Dx//e=.HX p.1 p.2.1 p.2.2}
def eB:bS (GJ e):=if h:e.b4=20 then fY.HX.ef e h λa x1 b=>ap ⟨(a,x1,b),rfl⟩else bk
abbrev JG:={p:fY×x0×fY×Dx//e=.BinOp p.1 p.2.1 p.2.2.1 p.2.2.2}
def Jp:bS (JG e):=if h:e.b4=2 then fY.BinOp.ef e h λa x1 b c=>ap ⟨(a,x1,b,c),rfl⟩else bk
abbrev Mz:={p:UnaryOp×fY×Dx//e=.UnaryOp p.1 p.2.1 p.2.2}
def Mh:bS (Mz e):=if h:e.b4=3 then fY.UnaryOp.ef e h λa x1 b=>ap ⟨(a,x1,b),rfl⟩else bk
abbrev GI:={p:BoolOp×am fY×Dx//e=.BoolOp p.1 p.2.1 p.2.2}
def Gv:bS (GI e):=if h:e.b4=0 then fY.BoolOp.ef e h λa x1 b=>ap ⟨(a,x1,b),rfl⟩else bk
abbrev JF:={p:fY×am FH×am fY×Dx//e=.Compare p.1 p.2.1 p.2.2.1 p.2.2.2}
def En:bS (JF e):=if h:e.b4=15 then fY.Compare.ef e h λa x1 b c=>ap ⟨(a,x1,b,c),rfl⟩else bk
abbrev MA:={p:fY×fY×fY×Dx//e=.IfExp p.1 p.2.1 p.2.2.1 p.2.2.2}
def Mi:bS (MA e):=if h:e.b4=5 then fY.IfExp.ef e h λa x1 b c=>ap ⟨(a,x1,b,c),rfl⟩else bk
abbrev Bj:={p:am fY×Dx//e=.am p.1 p.2}
def Gp:bS (Bj e):=if h:e.b4=24 then fY.am.ef e h λa x1=>ap ⟨(a,x1),rfl⟩else bk
abbrev xR:={p:am fY×a5×Dx//e=.KK p.1 p.2.1 p.2.2}
def cn:bS (xR e):=if h:e.b4=25 then fY.KK.ef e h λa x1 b=>ap ⟨(a,x1,b),rfl⟩else bk
abbrev Bk:={p:am (bS fY)×am fY×Dx//e=.Dict p.1 p.2.1 p.2.2}
def Gu:bS (Bk e):=if h:e.b4=6 then fY.Dict.ef e h λa x1 b=>ap ⟨(a,x1,b),rfl⟩else bk
abbrev Dr:={p:fY×am fY×am Keyword×Dx//e=.Call p.1 p.2.1 p.2.2.1 p.2.2.2}
def Df:bS (Dr e):=if h:e.b4=16 then fY.Call.ef e h λa x1 b c=>ap ⟨(a,x1,b,c),rfl⟩else bk
abbrev Jz:={p:fY×fY×Dx//e=.Subscript p.1 p.2.1 p.2.2}
def ly:bS (Jz e):=if h:e.b4=21 then fY.Subscript.ef e h λa x1 b=>ap ⟨(a,x1,b),rfl⟩else bk
abbrev A3:={p:bS fY×bS fY×bS fY×Dx//e=.Slice p.1 p.2.1 p.2.2.1 p.2.2.2}
def AS:bS (A3 e):=if h:e.b4=26 then fY.Slice.ef e h λa x1 b c=>ap ⟨(a,x1,b,c),rfl⟩else bk
abbrev Dp:={p:fY×am Comprehension×Ir×Dx//e=.H9 p.1 p.2.1 p.2.2.1 p.2.2.2}
def De:bS (Dp e):=if h:e.b4=8 then fY.H9.ef e h λa x1 b c=>ap ⟨(a,x1,b,c),rfl⟩else bk
abbrev JB:={p:Arguments×fY×Ir×Dx//e=.Lambda p.1 p.2.1 p.2.2.1 p.2.2.2}
def Jn:bS (JB e):=if h:e.b4=4 then fY.Lambda.ef e h λa x1 b c=>ap ⟨(a,x1,b,c),rfl⟩else bk
abbrev GH:={p:fY×am fY×Dx//e=.Call p.1 p.2.1 [] p.2.2}
def jY{α β:Type}(l:am α)(f:l=[]->bS β):bS β:=match l,f with | [],f=>f rfl |_::_,_=>bk
def cZ:bS (GH e):=match Df e with |ap ⟨(f,a,k,p),h⟩=>jY k (λq=>ap ⟨(f,a,p),q▸h⟩) |bk=>bk
abbrev xS:={p:bS fY×bS fY×Dx//e=.Slice p.1 p.2.1 bk p.2.2}
def rp:bS (xS e):=match AS e with |ap ⟨(l,h,s,p),q⟩=>(match s,q with |bk,q=>ap ⟨(l,h,p),q⟩ |ap _,_=>bk) |bk=>bk
abbrev GG:={p:fY×fY×fY×am fY×Ir×Dx//e=.H9 p.1 [⟨p.2.1,p.2.2.1,p.2.2.2.1,0⟩] p.2.2.2.2.1 p.2.2.2.2.2}
def AU:bS (GG e):=match De e with
 |ap ⟨(x,l,sc,p),q⟩=>(match l,q with |g::r,q=>(match r,g,q with | [],⟨t,it,kt,n⟩,q=>if z:n=0 then ap ⟨(x,t,it,kt,sc,p),z▸q⟩else bk |_::_,_,_=>bk) | [],_=>bk)
 |bk=>bk
end
def one{α:Type}(l:am α)(f:α->ct):ct:=match l with |a::r=>(match r with | []=>f a |_::_=>false) | []=>false
theorem cu{α:Type}{l:am α}{f:α->ct}(h:one l f=true):∃a,l=[a]/\f a=true:=match l,h with | [a],h=>aR a rfl h
def Io{α:Type}(l:am α)(f:α->α->ct):ct:=match l with |a::r=>one r (f a) | []=>false
theorem cM{α:Type}{l:am α}{f:α->α->ct}(h:Io l f=true):∃a b,l=[a,b]/\f a b=true:=match l,h with | [a,b],h=>gZ a b rfl h
def iN(e:fY):ct:=aZ (eO e) (λZ=>true) ||aZ (eB e) (λZ=>true) ||aZ (ly e) (λZ=>true) ||aZ (cZ e) λk=>aZ (eB k.1) λZ=>true
def bc(e:fY):ct:=e.b4 !=22
def cO(e:fY):ct:=e.b4 !=7
def da(e:fY):ct:=e.b4 !=8&&e.b4 !=9&&e.b4 !=10
def nJ(e:fY):ct:=e.b4 !=22&&e.b4 !=24&&e.b4 !=25
def rO(k:bS nc):ct:=k==ap .local ||k==ap .E2 ||k==ap .j2
def pK(kd:h9->bS nc)(a:Ir):am (h9×nc):=a.em.hC λ(n,k)=>if k==.j2&&kd n==ap .E2 then(n,.E2)else(n,k)
def yW(sl:am h9)(oa:a5)(x:h9):am h9:=(sl.hC λn=>if n=x\/n=(".0" :h9)then("" :h9)else n).fC oa x
def Cx.comp(C:Cx)(cr:Ir)(oa:a5)(x:h9):Cx:=⟨yW C.sl oa x,λn=>(pK C.kd cr).eh n,false⟩
def IX(C:Cx)(x:h9)(p:h9×nc):ct:=(p.2==.local&&(p.1==x ||p.1==(".0" :h9))) ||((p.2==.j2&&(!(p.1==("" :h9))&&(C.kd p.1==ap .E2 ||C.kd p.1==ap .j2))) ||p.2==.sB)
def qZ(C:Cx)(cr:Ir)(x:h9):ct:=cr.s9==.xL&&(!(x==("" :h9))&&(cr.em.eh x==ap .local&&(cr.em.eh (".0" :h9)==ap .local&&cr.em.l3 (IX C x))))
def Cx.lam(C:Cx)(cr:Ir):Cx:=⟨C.sl,λn=>cr.em.eh n,false⟩
def HW(C:Cx)(cr:Ir):ct:=cr.s9==.xL&& !cr.DH&& !cr.DM&&cr.em.l3 λ(n,k)=>(k==.j2&&(C.kd n==ap .E2 ||C.kd n==ap .j2)) ||k==.sB
def Jb:am h9->am (bS fY)->ct
 | [],es=>es.sw
 |x::r,es=>match es with |e::r'=>on e (λe=>aZ (nh e) λk=>k.1==.J6 x)&&Jb r r' | []=>false
def wa(a:Arguments):ct:=match a with |⟨ps,as,va,ks,kd,kw,df⟩=>ps.sw&&as.sw&&va.H_&&ks.sw&&kd.sw&&kw.H_&&df.sw
section
variable(gl:am (h9×Gl))(ev:a5->h9)
def Kn(C:Cx)(id:h9)(g:Gl):ct:=on (gl.eh id) (λy=>y.is g)&&C.kd id==ap .sB
def oN(C:Cx)(e:fY)(g:Gl):ct:=aZ (eO e) λn=>Kn gl C n.1 g
def Dd(C:Cx)(i:a5)(e:fY):ct:=aZ (eO e) λn=>C.sl[i]?==ap n.1
mutual
noncomputable def aM(C:Cx):X->Expr->Bool
 | .bad,_=>true
 | .omit,_=>false
 | .c c,e=>aZ (nh e) λk=>k.1==c
 | .v i,e=>aZ (eO e) λn=>C.sl[i]?==some n.1&&(rO (C.kd n.1)&&(!(n.1==("__debug__" :Str))&& !(n.1==("__classdict__" :Str))))
 | .g c,e=>oN gl C e (.val c)
 | .a x n,e=>aZ (eB e) λk=>k.2.1==attr n&&(iN k.1&&aM C x k.1)
 | .b op l r,e=>aZ (Jp e) λk=>k.2.1==op&&(aM C l k.1&&aM C r k.2.2.1)
 | .nt x,e=>aZ (Mh e) λk=>k.1==.Not&&aM C x k.2.1
 | .bo a es,e=>aZ (Gv e) λk=>k.1==(if a then .And else .Or)&&fK C es k.2.1
 | .cmp o l r,e=>aZ (En e) λk=>one k.2.1 (λf=>f==o)&&(one k.2.2.1 (λr'=>cO r'&&aM C r r')&&aM C l k.1)
 | .ju o p l x r,e=>aZ (En e) λk=>two k.2.1 (λf p'=>f==o&&p'==p)&&(two k.2.2.1 (λd r'=>cO r'&&(aM C x d&&aM C r r'))&&aM C l k.1)
 | .qC t a b,e=>aZ (Mi e) λk=>aM C t k.1&&(aM C a k.2.1&&aM C b k.2.2.1)
 | .ls es,e=>aZ (Gp e) λk=>decide (es.length<=1000)&&fK C es k.1
 | .tp es,e=>aZ (cn e) λk=>decide (es.length<=1000)&&fK C es k.1
 | .dc ks vs,e=>aZ (Gu e) λk=>Jb ks k.1&&(decide (ks.length=vs.length)&&(decide (ks.length<=15)&&(decide ks.Nodup&&fK C vs k.2.1)))
 | .f eo es,e=>aZ (cZ e) λk=>oN gl C k.1 (.fn eo)&&fK C es k.2.1
 | .k cid es,e=>aZ (cZ e) λk=>oN gl C k.1 (.cls cid)&&fK C es k.2.1
 | .bi n es,e=>aZ (cZ e) λk=>oN gl C k.1 (.blt n)&&fK C es k.2.1
 | .mu x,e=>aZ (cZ e) λk=>oN gl C k.1 (.blt 21)&&two k.2.1 λd t=>oN gl C t (.blt 22)&&(bc d&&aM C x d)
 | .ss x,e=>aZ (cZ e) λk=>oN gl C k.1 (.blt 23)&&one k.2.1 λk2=>aZ (cZ k2) λk2=>oN gl C k2.1 (.blt 24)&&one k2.2.1 λd=>bc d&&aM C x d
 | .m x f8 es,e=>aZ (cZ e) λk=>aZ (eB k.1) λa=>a.2.1==attr f8&&(iN a.1&&(a.2.2.endLine==k.2.2.line&&(decide (es.length<20)&&(aM C x a.1&&fK C es k.2.1))))
 | .s x i,e=>aZ (ly e) λk=>k.2.1.ctorIdx !=26&&(aM C x k.1&&aM C i k.2.1)
 | .sl x lo hi,e=>aZ (ly e) λk=>aZ (rp k.2.1) λl=>aM C x k.1&&((match l.1 with |some l=>aM C lo l |none=>lo.ctorIdx==1)&&(match l.2.1 with |some h=>aM C hi h |none=>hi.ctorIdx==1))
 | .lc el slot it cs,e=>aZ (AU e) λk=>aZ (eO k.2.1) λx=>cO k.2.2.1&&(qZ C k.2.2.2.2.1 x.1&&(aM C it k.2.2.1&&(aM (C.comp k.2.2.2.2.1 slot x.1) el k.1&&fK (C.comp k.2.2.2.2.1 slot x.1) cs k.2.2.2.1)))
 | .met fm x,e=>aZ (cZ e) λk=>C.code&&(oN gl C k.1 (.fn fm)&&one k.2.1 λl=>aZ (Jn l) λl=>wa l.1&&(HW C l.2.2.1&&aM (C.lam l.2.2.1) x l.2.1))
 | .er es,e=>aZ (cZ e) λk=>oN gl C k.1 (.blt 25)&&fK C es k.2.1
 | .pI x,e=>aZ (cZ e) λk=>oN gl C k.1 (.blt 26)&&one k.2.1 λd=>bc d&&aM C x d
 | .rev x,e=>aZ (cZ e) λk=>oN gl C k.1 (.blt 27)&&one k.2.1 λd=>bc d&&aM C x d
termination_by structural x=>x
noncomputable def fK(C:Cx):List X->List Expr->Bool
 | [],es=>es.isEmpty
 |x::r,es=>match es with |e::r'=>bc e&&aM C x e&&fK C r r' | []=>false
termination_by structural x=>x
end
end
section
variable(e:xo)
abbrev A4:={p:am fY×fY×Dx//e=.LA p.1 p.2.1 p.2.2}
def dD:bS (A4 e):=if h:e.b4=5 then xo.LA.ef e h λa b c=>ap ⟨(a,b,c),rfl⟩else bk
abbrev JH:={p:fY×x0×fY×Dx//e=.AugAssign p.1 p.2.1 p.2.2.1 p.2.2.2}
def v7:bS (JH e):=if h:e.b4=7 then xo.AugAssign.ef e h λa b c Q=>ap ⟨(a,b,c,Q),rfl⟩else bk
abbrev GF:={p:fY×Dx//e=.fY p.1 p.2}
def oG:bS (GF e):=if h:e.b4=24 then xo.fY.ef e h λa b=>ap ⟨(a,b),rfl⟩else bk
abbrev JC:={p:fY×am xo×am xo×Dx//e=.If p.1 p.2.1 p.2.2.1 p.2.2.2}
def El:bS (JC e):=if h:e.b4=12 then xo.If.ef e h λa b c Q=>ap ⟨(a,b,c,Q),rfl⟩else bk
abbrev Dk:={p:fY×am xo×Dx//e=.While p.1 p.2.1 [] p.2.2}
def vZ:bS (Dk e):=if h:e.b4=11 then xo.While.ef e h λa b l Q=>jY l λq=>ap ⟨(a,b,Q),by subst q;rfl⟩else bk
abbrev JD:={p:fY×fY×am xo×Dx//e=.For p.1 p.2.1 p.2.2.1 [] p.2.2.2}
def pT:bS (JD e):=if h:e.b4=9 then xo.For.ef e h λa b c l Q=>jY l λq=>ap ⟨(a,b,c,Q),by subst q;rfl⟩else bk
abbrev JA:={p:bS fY×Dx//e=.Return p.1 p.2}
def td:bS (JA e):=if h:e.b4=3 then xo.Return.ef e h λa b=>ap ⟨(a,b),rfl⟩else bk
abbrev JE:={p:am fY×Dx//e=.Delete p.1 p.2}
def Em:bS (JE e):=if h:e.b4=4 then xo.Delete.ef e h λa b=>ap ⟨(a,b),rfl⟩else bk
abbrev Dm:={p:bS fY×Dx//e=.Raise p.1 bk p.2}
def rq:bS (Dm e):=if h:e.b4=16 then xo.Raise.ef e h λa b c=>(match b with |bk=>ap ⟨(a,c),rfl⟩ |ap _=>bk)else bk
abbrev Jy:={p:am xo×am FM×Dx//e=.Try p.1 p.2.1 [] [] p.2.2}
def Ek:bS (Jy e):=if h:e.b4=17 then xo.Try.ef e h λa b l m Q=>jY l λq=>jY m λc=>ap ⟨(a,b,Q),by subst q c;rfl⟩else bk
abbrev Ds:={p:Dx//e=.Break p}
def Dg:bS (Ds e):=if h:e.b4=26 then xo.Break.ef e h λa=>ap ⟨a,rfl⟩else bk
end
def cT(C:Cx)(ts:am fY):am h9:=ts.C2 λ
 | .r0 id bv=>if C.kd id==ap .local&&bv.line==(ts.head?.hC (·.pos.line)).ww 0 then ap id else bk
 |_=>bk
def dU(u:Cg)(ts:am fY):am h9:=ts.C2 λ
 | .r0 id bv=>if u.n1 id==ap .local&&bv.line==(ts.head?.hC (·.pos.line)).ww 0 then ap id else bk
 |_=>bk
def jQ(e:fY):ct:=e.b4==22
def rS(C:Cx)(ts:am fY)(mo:fY):bS (am h9):=match cn mo with
 |ap k=>if !(ts.ah==2 ||ts.ah==3) ||k.1.1.ah !=ts.ah then bk
  else if k.1.1.any jQ then bk
  else if(cT C ts).ah !=ts.ah ||(cT C ts).eraseDups.ah !=(cT C ts).ah then bk
  else if k.1.1.l3 (foldedForSure 8)then bk
  else if k.1.1.l3 (constantsAlone 8)then ap []
  else ap (cT C ts)
 |bk=>bk
section
variable(gl:am (h9×Gl))(ev:a5->h9)
def sM(C:Cx)(nf:a5)(t:T)(e:fY):ct:=match t with
 | .v i=>decide (i<nf)&&Dd C i e
 | .a x n=>aZ (eB e) λk=>k.2.1==ev n&&aM gl ev C x k.1
 | .s x i=>aZ (ly e) λk=>k.2.1.b4 !=26&&(aM gl ev C x k.1&&aM gl ev C i k.2.1)
 | .sl x lo hi=>aZ (ly e) λk=>aZ (rp k.2.1) λl=>aM gl ev C x k.1&&((match l.1 with |ap l=>aM gl ev C lo l |bk=>lo.b4==1)&&(match l.2.1 with |ap h=>aM gl ev C hi h |bk=>hi.b4==1))
def pL(C:Cx)(nf:a5):am T->am fY->ct
 | [],es=>es.sw
 |t::ts,es=>match es with |e::es=>bc e&&(sM gl ev C nf t e&&pL C nf ts es) | []=>false
def w6(C:Cx)(nf:a5):am a5->am fY->ct
 | [],es=>es.sw
 |i::is,es=>match es with |e::es=>decide (i<nf)&&(Dd C i e&&w6 C nf is es) | []=>false
def Jc(C:Cx)(s:S)(e:xo)(s8:ct):ct:=match s with
 | .ex x=>aZ (oG e) (λk=>da k.1&&aM gl ev C x k.1)&&s8
 | .rr=>aZ (rq e) (λk=>k.1.H_)
 | .rt x=>aZ (td e) (λk=>on k.1 λe=>aM gl ev C x e)&&s8
 | .KI=>s8
 |_=>false
def w7(C:Cx):am S->am xo->ct
 | [],b=>b.sw
 |s::r,b=>match b with |e::r'=>Jc gl ev C s e (w7 C r r') | []=>false
mutual
noncomputable def fD(C:Cx)(nf:Nat):S->Stmt->Bool
 | .bad,_=>true
 | .as t x,s=>aZ (dD s) λk=>one k.1 λt'=>nJ t'&&((da k.2.1 ||t'.ctorIdx !=23)&&(aM gl attr C x k.2.1&&sM gl attr C nf t t'))
 | .asc i x,s=>aZ (dD s) λk=>one k.1 λt'=>decide (i<nf)&&(Dd C i t'&&(x.ctorIdx==23&&aM gl attr C x k.2.1))
 | .ast ts x,s=>aZ (dD s) λk=>one k.1 λt'=>aZ (cn t') λt'=>da k.2.1&&((rS C t'.1 k.2.1).isNone&&(t'.1.all bc&&(decide (ts.length=t'.1.length)&&(aM gl attr C x k.2.1&&pL gl attr C nf ts t'.1))))
 | .NN is x,s=>aZ (dD s) λk=>one k.1 λt'=>aZ (cn t') λt'=>da k.2.1&&(on (rS C t'.1 k.2.1) (λns=> !ns.isEmpty&&is.map (C.sl[·]?)==ns.map some&&is.all λi=>decide (i<nf))&&aM gl attr C x k.2.1)
 | .ag i o x,s=>aZ (v7 s) λk=>decide (i<nf)&&(aZ (eO k.1) (λn=>C.sl[i]?==some n.1&&(rO (C.kd n.1)&& !(n.1==("__classdict__" :Str))))&&(k.2.1==o&&aM gl attr C x k.2.2.1))
 | .je q n o x,s=>aZ (v7 s) λk=>aZ (eB k.1) λa=>a.2.1==attr n&&(k.2.1==o&&(aM gl attr C q a.1&&aM gl attr C x k.2.2.1))
 | .ex x,s=>aZ (oG s) λk=>da k.1&&aM gl attr C x k.1
 | .iff t a b,s=>aZ (El s) λk=>aM gl attr C t k.1&&(cD C nf a k.2.1&&cD C nf b k.2.2.1)
 | .wh t b,s=>aZ (vZ s) λk=>aM gl attr C t k.1&&cD C nf b k.2.1
 | .oX i it b,s=>aZ (pT s) λk=>decide (i<nf)&&(Dd C i k.1&&(cO k.2.1&&(it.ctorIdx !=26&&(aM gl attr C it k.2.1&&cD C nf b k.2.2.1))))
 | .fr ps it b,s=>aZ (pT s) λk=>aZ (cn k.1) (λt=>w6 C nf ps t.1)&&(cO k.2.1&&(aM gl attr C it k.2.1&&cD C nf b k.2.2.1))
 | .G2 i ps it b,s=>aZ (pT s) λk=>aZ (cn k.1) (λt=>two t.1 λI c=>decide (i<nf)&&(Dd C i I&&aZ (cn c) λt=>w6 C nf ps t.1))&&(cO k.2.1&&(aM gl attr C it k.2.1&&cD C nf b k.2.2.1))
 | .rt x,s=>aZ (td s) λk=>on k.1 λe=>aM gl attr C x e
 | .xB,s=>aZ (td s) λk=>k.1.isNone
 | .rs c x,s=>aZ (rq s) λk=>on k.1 λe=>aZ (cZ e) λf=>oN gl C f.1 (.cls c)&&one f.2.1 λa=>bc a&&aM gl attr C x a
 | .rr,_=>false
 | .dl o i,s=>aZ (Em s) λk=>one k.1 λe=>aZ (ly e) λk=>k.2.1.ctorIdx !=26&&(aM gl attr C o k.1&&aM gl attr C i k.2.1)
 | .br,s=>aZ (Dg s) λZ=>true
 | .tr b c hs,s=>aZ (Ek s) λk=>cD C nf b k.1&&one k.2.1 λh=>match h with | .ExceptHandler t n b_ _=>on t (λe=>oN gl C e (.cls c))&&(n.isNone&&(!b_.isEmpty&&w7 gl attr C hs b_))
termination_by structural x=>x
noncomputable def cD(C:Cx)(nf:Nat):List S->List Stmt->Bool
 | [],b=>b.isEmpty
 |s::r,b=>match b with |s'::r'=>fD C nf s s'&&cD C nf r r' | []=>false
termination_by structural x=>x
end
end
def gN:Fn:=⟨2,[.bn 512],2,false,["self","size"],
 [.as (.a (.v 0) 6) (.v 1),
 (.as (.a (.v 0) 14) (.c (.bn 0))),
 (.as (.a (.v 0) 15) (.dc [] []))]⟩
def ig:Fn:=⟨4,[],4,false,["self","kind","readable","writable"],
 [.as (.a (.v 0) 19) (.v 1),
 (.as (.a (.v 0) 21) (.v 2)),
 (.as (.a (.v 0) 22) (.v 3)),
 (.as (.a (.v 0) 23) (.c (.bn 1))),
 (.as (.a (.v 0) 24) (.c (.bn 0))),
 (.as (.a (.v 0) 25) (.c .bk)),
 (.as (.a (.v 0) 26) (.c .bk)),
 (.as (.a (.v 0) 27) (.c (.bn 0)))]⟩
def gQ:Fn:=⟨7,[],7,false,["self","most","pipes","nodes","journal","devices","block"],
 [.xD (.bo false [.mc .Lt (.v 1) (.c (.bn 1)),.mc .Lt (.v 6) (.c (.bn 1))]) [.KI] [],
 (.as (.a (.v 0) 28) (.v 1)),
 (.as (.a (.v 0) 15) (.v 2)),
 (.as (.a (.v 0) 29) (.v 3)),
 (.as (.a (.v 0) 30) (.v 4)),
 (.as (.a (.v 0) 31) (.v 5)),
 (.as (.a (.v 0) 32) (.v 6)),
 (.as (.a (.v 0) 33) (.ls []))]⟩
def dJ:Fn:=⟨2,[],2,false,["self","many"],
 [.xD (.mc .Gt (.b .s0 (.bi 0 [.a (.v 0) 33]) (.v 1)) (.a (.v 0) 28)) [.KI] []]⟩
def fQ:Fn:=⟨2,[],2,false,["self","file"],
 [.ex (.m (.v 0) 34 [.c (.bn 1)]),
 (.ex (.m (.a (.v 0) 33) 0 [.v 1])),
 (.rt (.v 1))]⟩
def dI:Fn:=⟨4,[],5,false,["self","node","readable","writable","file"],
 [.as (.v 4) (.k 9 [.g (.J6 "node"),.v 2,.v 3]),
 (.as (.a (.v 4) 26) (.v 1)),
 (.rt (.m (.v 0) 36 [.v 4]))]⟩
def fP:Fn:=⟨1,[],1,false,["self"],
 [.rt (.b .H3 (.bi 2 [.c (.bn 1),.b .zn (.b .Sub (.a (.a (.v 0) 30) 42) (.c (.bn 4))) (.c (.bn 2))]) (.a (.v 0) 32))]⟩
def dB:Fn:=⟨3,[],6,false,["self","file","octets","done","part","count"],
 [.xD (.nt (.a (.v 1) 22)) [.KI] [],
 (.xD (.mc .Eq (.a (.v 1) 19) (.g (.J6 "pipe"))) [.rt (.m (.a (.v 1) 25) 43 [.v 2])] []),
 (.xD (.mc .Eq (.a (.v 1) 19) (.g (.J6 "device"))) [.KI] []),
 (.as (.v 3) (.c (.bn 0))),
 (.wh (.mc .Lt (.v 3) (.bi 0 [.v 2])) [.as (.v 4) (.sl (.v 2) (.v 3) (.b .s0 (.v 3) (.m (.v 0) 44 []))),
 (.as (.v 5) (.m (.v 0) 45 [.v 1,.v 4])),
 (.ag 3 .s0 (.v 5)),
 (.xD (.mc .Lt (.v 5) (.bi 0 [.v 4])) [.br] [])]),
 (.rt (.tp [.v 3,.g (.bn 0)]))]⟩
def b8:Fn:=⟨3,[],4,false,["self","file","octets","count"],
 [.ex (.m (.a (.v 0) 30) 38 []),
 (.tr [.as (.v 3) (.m (.a (.v 1) 26) 43 [.a (.v 1) 24,.v 2])] 3 [.KI]),
 (.ex (.m (.a (.v 0) 30) 40 [])),
 (.je (.v 1) 24 .s0 (.v 3)),
 (.rt (.v 3))]⟩
def jI:Fn:=⟨3,[],3,false,["self","number","octets"],
 [.as (.a (.v 0) 18) (.v 1),
 (.as (.a (.v 0) 46) (.bi 4 [.v 2])),
 (.as (.a (.v 0) 23) (.c (.bn 0))),
 (.as (.a (.v 0) 47) (.c (.bn 0)))]⟩
def cV:Fn:=⟨1,[],1,false,["self"],
 [.rt (.bo true [.mc .Eq (.a (.v 0) 23) (.c (.bn 0)),.mc .Eq (.a (.v 0) 47) (.c (.bn 0))])]⟩
def iw:Fn:=⟨1,[],1,false,["self"],
 [.rt (.bi 3 [.a (.v 0) 46])]⟩
def jJ:Fn:=⟨2,[],2,false,["self","octets"],
 [.xD (.mc .FT (.bi 0 [.v 1]) (.bi 0 [.a (.v 0) 46])) [.KI] [],
 (.as (.sl (.a (.v 0) 46) .omit .omit) (.v 1))]⟩
def i4:Fn:=⟨1,[],1,false,["self"],
 [.as (.sl (.a (.v 0) 46) .omit .omit) (.bi 3 [.bi 0 [.a (.v 0) 46]])]⟩
def k8:Fn:=⟨3,[],3,false,["self","disk","most"],
 [.xD (.mc .Lt (.v 2) (.c (.bn 1))) [.KI] [],
 (.as (.a (.v 0) 17) (.v 1)),
 (.as (.a (.v 0) 28) (.v 2)),
 (.as (.a (.v 0) 6) (.a (.v 1) 6)),
 (.as (.a (.v 0) 48) (.ls [])),
 (.as (.a (.v 0) 49) (.dc [] [])),
 (.as (.a (.v 0) 50) (.c (.bn 0))),
 (.as (.a (.v 0) 51) (.c (.bn 0))),
 (.as (.a (.v 0) 52) (.c (.bn 0)))]⟩
def fy:Fn:=⟨2,[],2,false,["self","number"],
 [.xD (.bo false [.nt (.mu (.v 1)),.nt (.ju .LtE .Lt (.c (.bn 0)) (.v 1) (.a (.a (.v 0) 17) 53))]) [.KI] []]⟩
def fU:Fn:=⟨2,[],2,false,["self","buffer"],
 [.xD (.bo false [.mc .IsNot (.m (.a (.v 0) 49) 4 [.a (.v 1) 18]) (.v 1),.mc .Eq (.a (.v 1) 23) (.c (.bn 0))]) [.KI] []]⟩
def i0:Fn:=⟨2,[],3,false,["self","number","found"],
 [.ex (.m (.v 0) 54 [.v 1]),
 (.as (.v 2) (.m (.a (.v 0) 49) 4 [.v 1])),
 (.xD (.mc .Is (.v 2) (.c .bk)) [.ex (.m (.v 0) 55 []),
 (.as (.v 2) (.k 11 [.v 1,.m (.a (.v 0) 17) 41 [.v 1]])),
 (.je (.v 0) 51 .s0 (.c (.bn 1))),
 (.as (.s (.a (.v 0) 49) (.v 1)) (.v 2)),
 (.ex (.m (.a (.v 0) 48) 0 [.v 2]))] [.je (.v 0) 50 .s0 (.c (.bn 1))]),
 (.je (.v 2) 23 .s0 (.c (.bn 1))),
 (.rt (.v 2))]⟩
def dC:Fn:=⟨1,[],3,false,["self","place","buffer"],
 [.xD (.mc .Lt (.bi 0 [.a (.v 0) 48]) (.a (.v 0) 28)) [.xB] [],
 (.fr [1,2] (.pI (.a (.v 0) 48)) [(.xD (.m (.v 2) 123 []) [.dl (.a (.v 0) 49) (.a (.v 2) 18),
 (.dl (.a (.v 0) 48) (.v 1)),
 .xB] [])]),
 .KI]⟩
def ir:Fn:=⟨2,[],2,false,["self","buffer"],
 [.ex (.m (.v 0) 56 [.v 1]),
 (.je (.v 1) 23 .Sub (.c (.bn 1))),
 (.xD (.mc .Eq (.a (.v 1) 23) (.c (.bn 0))) [.ex (.m (.a (.v 0) 48) 2 [.v 1]),
 (.ex (.m (.a (.v 0) 48) 0 [.v 1]))] [])]⟩
def mI:Fn:=⟨2,[],2,false,["self","buffer"],
 [.ex (.m (.v 0) 56 [.v 1]),
 (.je (.v 1) 47 .s0 (.c (.bn 1)))]⟩
def jH:Fn:=⟨2,[],3,false,["self","number","found"],
 [.as (.v 2) (.m (.a (.v 0) 49) 4 [.v 1]),
 (.xD (.bo false [.mc .Is (.v 2) (.c .bk),.mc .Eq (.a (.v 2) 47) (.c (.bn 0))]) [.KI] []),
 (.je (.v 2) 47 .Sub (.c (.bn 1)))]⟩
def gq:Fn:=⟨2,[],2,false,["self","buffer"],
 [.ex (.m (.v 0) 56 [.v 1]),
 (.ex (.m (.a (.v 0) 17) 43 [.a (.v 1) 18,.m (.v 1) 57 []])),
 (.je (.v 0) 52 .s0 (.c (.bn 1)))]⟩
def gr:Fn:=⟨1,[],1,false,["self"],
 [.ex (.m (.a (.v 0) 17) 58 [])]⟩
def k7:Fn:=⟨2,[],4,false,["self","number","buffer","octets"],
 [.as (.v 2) (.m (.v 0) 4 [.v 1]),
 (.as (.v 3) (.m (.v 2) 57 [])),
 (.ex (.m (.v 0) 59 [.v 2])),
 (.rt (.v 3))]⟩
def hV:Fn:=⟨3,[],4,false,["self","number","octets","buffer"],
 [.as (.v 3) (.m (.v 0) 4 [.v 1]),
 (.ex (.m (.v 3) 60 [.v 2])),
 (.ex (.m (.v 0) 43 [.v 3])),
 (.ex (.m (.v 0) 59 [.v 3]))]⟩
def mG:Fn:=⟨3,[],3,false,["self","blocks","size"],
 [.xD (.bo false [.mc .Lt (.v 1) (.c (.bn 1)),.mc .Lt (.v 2) (.c (.bn 1))]) [.KI] [],
 (.as (.a (.v 0) 53) (.v 1)),
 (.as (.a (.v 0) 6) (.v 2)),
 (.as (.a (.v 0) 61) (.dc [] [])),
 (.as (.a (.v 0) 62) (.dc [] [])),
 (.as (.a (.v 0) 63) (.ls [])),
 (.as (.a (.v 0) 52) (.c (.bn 0))),
 (.as (.a (.v 0) 64) (.c (.bn 0))),
 (.as (.a (.v 0) 65) (.c .bk)),
 (.as (.a (.v 0) 66) (.c .bk)),
 (.as (.a (.v 0) 67) (.c (.gg false)))]⟩
def fS:Fn:=⟨1,[],1,false,["self"],
 [.xD (.a (.v 0) 67) [.KI] []]⟩
def fT:Fn:=⟨2,[],2,false,["self","number"],
 [.xD (.bo false [.nt (.mu (.v 1)),.nt (.ju .LtE .Lt (.c (.bn 0)) (.v 1) (.a (.v 0) 53))]) [.KI] []]⟩
def mF:Fn:=⟨2,[],2,false,["self","number"],
 [.ex (.m (.v 0) 68 []),
 (.ex (.m (.v 0) 54 [.v 1])),
 (.rt (.m (.a (.v 0) 62) 4 [.v 1,.bi 3 [.a (.v 0) 6]]))]⟩
def hK:Fn:=⟨3,[],3,false,["self","number","octets"],
 [.ex (.m (.v 0) 68 []),
 (.ex (.m (.v 0) 54 [.v 1])),
 (.xD (.mc .FT (.bi 0 [.v 2]) (.a (.v 0) 6)) [.KI] []),
 (.xD (.bo true [.mc .IsNot (.a (.v 0) 65) (.c .bk),.mc .GtE (.a (.v 0) 52) (.a (.v 0) 65)]) [.ex (.m (.v 0) 124 [])] []),
 (.je (.v 0) 52 .s0 (.c (.bn 1))),
 (.as (.s (.a (.v 0) 62) (.v 1)) (.bi 3 [.v 2])),
 (.ex (.m (.a (.v 0) 63) 0 [.tp [.v 1,.bi 3 [.v 2]]]))]⟩
def mH:Fn:=⟨1,[],1,false,["self"],
 [.as (.a (.v 0) 67) (.c (.gg true)),
 (.rs 5 (.a (.v 0) 52))]⟩
def hP:Fn:=⟨1,[],3,false,["self","number","octets"],
 [.ex (.m (.v 0) 68 []),
 (.xD (.bo true [.mc .IsNot (.a (.v 0) 66) (.c .bk),.mc .GtE (.a (.v 0) 64) (.a (.v 0) 66)]) [.ex (.m (.v 0) 124 [])] []),
 (.je (.v 0) 64 .s0 (.c (.bn 1))),
 (.fr [1,2] (.a (.v 0) 63) [.as (.s (.a (.v 0) 61) (.v 1)) (.v 2)]),
 (.as (.a (.v 0) 63) (.ls []))]⟩
def fR:Fn:=⟨2,[],2,false,["self","count"],
 [.xD (.mc .Lt (.v 1) (.c (.bn 0))) [.KI] [],
 (.as (.a (.v 0) 65) (.b .s0 (.a (.v 0) 52) (.v 1)))]⟩
def d_:Fn:=⟨2,[],2,false,["self","count"],
 [.xD (.mc .Lt (.v 1) (.c (.bn 0))) [.KI] [],
 (.as (.a (.v 0) 66) (.b .s0 (.a (.v 0) 64) (.v 1)))]⟩
def k6:Fn:=⟨2,[],6,false,["self","chosen","found","place","number","octets"],
 [.as (.v 2) (.k 13 [.a (.v 0) 53,.a (.v 0) 6]),
 (.as (.a (.v 2) 61) (.bi 7 [.a (.v 0) 61])),
 (.oX 3 (.v 1) [.xD (.nt (.ju .LtE .Lt (.c (.bn 0)) (.v 3) (.bi 0 [.a (.v 0) 63]))) [.KI] []]),
 (.G2 3 [4,5] (.pI (.a (.v 0) 63)) [.xD (.mc .In (.v 3) (.v 1)) [.as (.s (.a (.v 2) 61) (.v 4)) (.v 5)] []]),
 (.as (.a (.v 2) 62) (.bi 7 [.a (.v 2) 61])),
 (.rt (.v 2))]⟩
def pF:Fn:=⟨2,[],2,false,["octets","at"],
 [.rt (.b .BitOr (.s (.v 0) (.v 1)) (.b .LShift (.s (.v 0) (.b .s0 (.v 1) (.c (.bn 1)))) (.c (.bn 8))))]⟩
def pE:Fn:=⟨2,[],2,false,["octets","at"],
 [.rt (.b .BitOr (.f 63 [.v 0,.v 1]) (.b .LShift (.f 63 [.v 0,.b .s0 (.v 1) (.c (.bn 2))]) (.c (.bn 16))))]⟩
def n4:Fn:=⟨3,[],3,false,["octets","at","value"],
 [.as (.s (.v 0) (.v 1)) (.b .GZ (.v 2) (.c (.bn 255))),
 (.as (.s (.v 0) (.b .s0 (.v 1) (.c (.bn 1)))) (.b .GZ (.b .RShift (.v 2) (.c (.bn 8))) (.c (.bn 255))))]⟩
def nZ:Fn:=⟨3,[],3,false,["octets","at","value"],
 [.ex (.f 65 [.v 0,.v 1,.b .GZ (.v 2) (.c (.bn 65535))]),
 (.ex (.f 65 [.v 0,.b .s0 (.v 1) (.c (.bn 2)),.b .GZ (.b .RShift (.v 2) (.c (.bn 16))) (.c (.bn 65535))]))]⟩
def kU:Fn:=⟨2,[],2,false,["count","size"],
 [.rt (.b .zn (.b .Sub (.b .s0 (.v 0) (.v 1)) (.c (.bn 1))) (.v 1))]⟩
def kW:Fn:=⟨6,[.bn 12],6,false,["self","block","blocks","inodes","log","direct"],
 [.xD (.bo false [.mc .Lt (.v 5) (.c (.bn 1)),.mc .Lt (.v 1) (.b .s0 (.g (.bn 12)) (.b .H3 (.c (.bn 4)) (.b .s0 (.v 5) (.c (.bn 1))))),.mc .Lt (.v 1) (.b .H3 (.c (.bn 4)) (.g (.bn 9)))]) [.KI] [],
 (.xD (.mc .FT (.b .Mod (.v 1) (.g (.bn 16))) (.c (.bn 0))) [.KI] []),
 (.xD (.bo false [.mc .Lt (.v 3) (.c (.bn 2)),.mc .Lt (.v 4) (.c (.bn 2)),.mc .Lt (.v 2) (.c (.bn 1))]) [.KI] []),
 (.as (.a (.v 0) 32) (.v 1)),
 (.as (.a (.v 0) 53) (.v 2)),
 (.as (.a (.v 0) 69) (.v 3)),
 (.as (.a (.v 0) 70) (.v 4)),
 (.as (.a (.v 0) 71) (.v 5)),
 (.as (.a (.v 0) 48) (.b .s0 (.g (.bn 12)) (.b .H3 (.c (.bn 4)) (.b .s0 (.v 5) (.c (.bn 1)))))),
 (.as (.a (.v 0) 72) (.b .zn (.v 1) (.a (.v 0) 48))),
 (.as (.a (.v 0) 73) (.b .zn (.v 1) (.c (.bn 4)))),
 (.as (.a (.v 0) 74) (.g (.bn 2))),
 (.as (.a (.v 0) 75) (.b .s0 (.g (.bn 2)) (.v 4))),
 (.as (.a (.v 0) 76) (.b .s0 (.a (.v 0) 75) (.f 67 [.v 3,.a (.v 0) 72]))),
 (.as (.a (.v 0) 77) (.b .s0 (.a (.v 0) 76) (.f 67 [.v 2,.b .H3 (.c (.bn 8)) (.v 1)]))),
 (.xD (.mc .GtE (.a (.v 0) 77) (.v 2)) [.KI] [])]⟩
def eH:Fn:=⟨1,[],1,false,["self"],
 [.rt (.b .s0 (.a (.v 0) 71) (.a (.v 0) 73))]⟩
def fN:Fn:=⟨1,[],1,false,["self"],
 [.rt (.b .H3 (.a (.v 0) 32) (.m (.v 0) 78 []))]⟩
def iS:Fn:=⟨2,[],2,false,["self","number"],
 [.rt (.tp [.b .s0 (.a (.v 0) 75) (.b .zn (.v 1) (.a (.v 0) 72)),.b .H3 (.b .Mod (.v 1) (.a (.v 0) 72)) (.a (.v 0) 48)])]⟩
def iT:Fn:=⟨2,[],3,false,["self","number","octet"],
 [.as (.v 2) (.b .RShift (.v 1) (.c (.bn 3))),
 (.rt (.tp [.b .s0 (.a (.v 0) 76) (.b .zn (.v 2) (.a (.v 0) 32)),.b .Mod (.v 2) (.a (.v 0) 32),.b .LShift (.c (.bn 1)) (.b .GZ (.v 1) (.c (.bn 7)))]))]⟩
def mD:Fn:=⟨3,[],3,false,["self","nodes","number"],
 [.as (.a (.v 0) 29) (.v 1),
 (.as (.a (.v 0) 18) (.v 2)),
 (.as (.a (.v 0) 23) (.c (.bn 1))),
 (.as (.a (.v 0) 19) (.g (.bn 0))),
 (.as (.a (.v 0) 27) (.c (.bn 0))),
 (.as (.a (.v 0) 79) (.c (.bn 0))),
 (.as (.a (.v 0) 20) (.c (.bn 0))),
 (.as (.a (.v 0) 6) (.c (.bn 0))),
 (.as (.a (.v 0) 80) (.ls []))]⟩
def ip:Fn:=⟨4,[],4,false,["self","octets","at","direct",""],
 [.as (.a (.v 0) 19) (.f 63 [.v 1,.v 2]),
 (.as (.a (.v 0) 27) (.f 63 [.v 1,.b .s0 (.v 2) (.c (.bn 2))])),
 (.as (.a (.v 0) 79) (.f 63 [.v 1,.b .s0 (.v 2) (.c (.bn 4))])),
 (.as (.a (.v 0) 20) (.f 63 [.v 1,.b .s0 (.v 2) (.c (.bn 6))])),
 (.as (.a (.v 0) 6) (.f 64 [.v 1,.b .s0 (.v 2) (.c (.bn 8))])),
 (.as (.a (.v 0) 80) (.lc (.f 64 [.v 1,.b .s0 (.b .s0 (.v 2) (.g (.bn 12))) (.b .H3 (.c (.bn 4)) (.v 4))]) 4 (.er [.b .s0 (.v 3) (.c (.bn 1))]) []))]⟩
def iX:Fn:=⟨3,[],5,false,["self","octets","at","place","number"],
 [.ex (.f 65 [.v 1,.v 2,.a (.v 0) 19]),
 (.ex (.f 65 [.v 1,.b .s0 (.v 2) (.c (.bn 2)),.a (.v 0) 27])),
 (.ex (.f 65 [.v 1,.b .s0 (.v 2) (.c (.bn 4)),.a (.v 0) 79])),
 (.ex (.f 65 [.v 1,.b .s0 (.v 2) (.c (.bn 6)),.a (.v 0) 20])),
 (.ex (.f 66 [.v 1,.b .s0 (.v 2) (.c (.bn 8)),.a (.v 0) 6])),
 (.fr [3,4] (.pI (.a (.v 0) 80)) [.ex (.f 66 [.v 1,.b .s0 (.b .s0 (.v 2) (.g (.bn 12))) (.b .H3 (.c (.bn 4)) (.v 3)),.v 4])])]⟩
def mC:Fn:=⟨3,[],3,false,["self","offset","count"],
 [.rt (.m (.a (.v 0) 29) 41 [.v 0,.v 1,.v 2])]⟩
def kZ:Fn:=⟨3,[],3,false,["self","offset","octets"],
 [.rt (.m (.a (.v 0) 29) 43 [.v 0,.v 1,.v 2])]⟩
def jG:Fn:=⟨1,[],1,false,["self"],
 [.ex (.m (.a (.v 0) 29) 89 [.v 0])]⟩
def mE:Fn:=⟨1,[],1,false,["self"],
 [.as (.a (.v 0) 23) (.b .s0 (.a (.v 0) 23) (.c (.bn 1))),
 (.rt (.v 0))]⟩
def kY:Fn:=⟨3,[],3,false,["self","journal","super_block"],
 [.as (.a (.v 0) 30) (.v 1),
 (.as (.a (.v 0) 81) (.a (.v 1) 81)),
 (.as (.a (.v 0) 82) (.v 2)),
 (.as (.a (.v 0) 83) (.dc [] []))]⟩
def eI:Fn:=⟨2,[],2,false,["self","number"],
 [.xD (.nt (.ju .LtE .Lt (.c (.bn 1)) (.v 1) (.a (.a (.v 0) 82) 69))) [.KI] []]⟩
def ij:Fn:=⟨2,[],6,false,["self","number","block","at","buffer","found"],
 [.ast [.v 2,.v 3] (.m (.a (.v 0) 82) 84 [.v 1]),
 (.as (.v 4) (.m (.a (.v 0) 81) 4 [.v 2])),
 (.as (.v 5) (.tp [.f 63 [.a (.v 4) 46,.v 3],.f 63 [.a (.v 4) 46,.b .s0 (.v 3) (.c (.bn 6))]])),
 (.ex (.m (.a (.v 0) 81) 59 [.v 4])),
 (.rt (.v 5))]⟩
def iW:Fn:=⟨2,[],6,false,["self","number","block","at","node","buffer"],
 [.ex (.m (.v 0) 85 [.v 1]),
 (.xD (.mc .In (.v 1) (.a (.v 0) 83)) [.rt (.m (.s (.a (.v 0) 83) (.v 1)) 86 [])] []),
 (.ast [.v 2,.v 3] (.m (.a (.v 0) 82) 84 [.v 1])),
 (.as (.v 4) (.k 15 [.v 0,.v 1])),
 (.as (.v 5) (.m (.a (.v 0) 81) 4 [.v 2])),
 (.ex (.m (.v 4) 87 [.a (.v 5) 46,.v 3,.a (.a (.v 0) 82) 71])),
 (.ex (.m (.a (.v 0) 81) 59 [.v 5])),
 (.xD (.mc .Eq (.a (.v 4) 19) (.g (.bn 0))) [.KI] []),
 (.as (.s (.a (.v 0) 83) (.v 1)) (.v 4)),
 (.rt (.v 4))]⟩
def dX:Fn:=⟨4,[.bn 0,.bn 0],6,false,["self","kind","major","minor","number","node"],
 [.xD (.mc .NotIn (.v 1) (.tp [.g (.bn 1),.g (.bn 2),.g (.bn 3)])) [.KI] [],
 (.oX 4 (.er [.c (.bn 1),.a (.a (.v 0) 82) 69]) [(.xD (.mc .Eq (.s (.m (.v 0) 88 [.v 4]) (.c (.bn 0))) (.g (.bn 0))) [.as (.v 5) (.k 15 [.v 0,.v 4]),
 (.ast [.a (.v 5) 19,.a (.v 5) 27,.a (.v 5) 79] (.tp [.v 1,.v 2,.v 3])),
 (.as (.a (.v 5) 80) (.b .H3 (.ls [.c (.bn 0)]) (.b .s0 (.a (.a (.v 0) 82) 71) (.c (.bn 1))))),
 (.as (.s (.a (.v 0) 83) (.v 4)) (.v 5)),
 (.ex (.m (.v 0) 89 [.v 5])),
 (.rt (.v 5))] [])]),
 .KI]⟩
def iU:Fn:=⟨2,[],5,false,["self","node","block","at","buffer"],
 [.ast [.v 2,.v 3] (.m (.a (.v 0) 82) 84 [.a (.v 1) 18]),
 (.as (.v 4) (.m (.a (.v 0) 81) 4 [.v 2])),
 (.ex (.m (.v 1) 90 [.a (.v 4) 46,.v 3])),
 (.ex (.m (.a (.v 0) 30) 43 [.v 4])),
 (.ex (.m (.a (.v 0) 81) 59 [.v 4]))]⟩
def mB:Fn:=⟨2,[],2,false,["self","node"],
 [.xD (.bo false [.mc .Lt (.a (.v 1) 23) (.c (.bn 1)),.mc .IsNot (.m (.a (.v 0) 83) 4 [.a (.v 1) 18]) (.v 1)]) [.KI] [],
 (.xD (.mc .Eq (.a (.v 1) 23) (.c (.bn 1))) [(.xD (.mc .Eq (.a (.v 1) 20) (.c (.bn 0))) [.KI,
 (.as (.a (.v 1) 19) (.g (.bn 0))),
 (.ex (.m (.v 0) 89 [.v 1]))] []),
 (.dl (.a (.v 0) 83) (.a (.v 1) 18))] []),
 (.as (.a (.v 1) 23) (.b .Sub (.a (.v 1) 23) (.c (.bn 1))))]⟩
def fw:Fn:=⟨1,[],7,false,["self","number","place","buffer","taken","at","bit"],
 [.as (.v 1) (.a (.a (.v 0) 82) 77),
 (.wh (.mc .Lt (.v 1) (.a (.a (.v 0) 82) 53)) [.as (.v 2) (.s (.m (.a (.v 0) 82) 91 [.v 1]) (.c (.bn 0))),
 (.as (.v 3) (.m (.a (.v 0) 81) 4 [.v 2])),
 (.as (.v 1) (.m (.v 0) 92 [.a (.v 3) 46,.v 2,.v 1])),
 (.as (.v 4) (.bo true [.mc .Lt (.v 1) (.a (.a (.v 0) 82) 53),.mc .Eq (.s (.m (.a (.v 0) 82) 91 [.v 1]) (.c (.bn 0))) (.v 2)])),
 (.xD (.v 4) [.ast [.v 5,.v 6] (.sl (.m (.a (.v 0) 82) 91 [.v 1]) (.c (.bn 1)) .omit),
 (.as (.s (.a (.v 3) 46) (.v 5)) (.b .BitOr (.s (.a (.v 3) 46) (.v 5)) (.v 6))),
 (.ex (.m (.a (.v 0) 30) 43 [.v 3]))] []),
 (.ex (.m (.a (.v 0) 81) 59 [.v 3])),
 (.xD (.v 4) [.ex (.m (.v 0) 93 [.v 1]),
 (.rt (.v 1))] [])]),
 .KI]⟩
def gO:Fn:=⟨4,[],7,false,["self","data","place","number","block","at","bit"],
 [(.wh (.mc .Lt (.v 3) (.a (.a (.v 0) 82) 53)) [.ast [.v 4,.v 5,.v 6] (.m (.a (.v 0) 82) 91 [.v 3]),
 (.xD (.bo false [.mc .FT (.v 4) (.v 2),.mc .Eq (.b .GZ (.s (.v 1) (.v 5)) (.v 6)) (.c (.bn 0))]) [.rt (.v 3)] []),
 (.as (.v 3) (.b .s0 (.v 3) (.c (.bn 1))))]),
 (.rt (.v 3))]⟩
def eK:Fn:=⟨2,[],3,false,["self","number","buffer"],
 [.as (.v 2) (.m (.a (.v 0) 81) 4 [.v 1]),
 (.ex (.m (.v 2) 94 [])),
 (.ex (.m (.a (.v 0) 30) 43 [.v 2])),
 (.ex (.m (.a (.v 0) 81) 59 [.v 2]))]⟩
def eJ:Fn:=⟨1,[],7,false,["self","found","number","place","at","bit","buffer"],
 [.as (.v 1) (.c (.bn 0)),
 (.oX 2 (.er [.a (.a (.v 0) 82) 77,.a (.a (.v 0) 82) 53]) [.ast [.v 3,.v 4,.v 5] (.m (.a (.v 0) 82) 91 [.v 2]),
 (.as (.v 6) (.m (.a (.v 0) 81) 4 [.v 3])),
 (.xD (.mc .Eq (.b .GZ (.s (.a (.v 6) 46) (.v 4)) (.v 5)) (.c (.bn 0))) [.as (.v 1) (.b .s0 (.v 1) (.c (.bn 1)))] []),
 (.ex (.m (.a (.v 0) 81) 59 [.v 6]))]),
 (.rt (.v 1))]⟩
def bM:Fn:=⟨4,[],5,false,["self","node","index","make","direct"],
 [.as (.v 4) (.a (.a (.v 0) 82) 71),
 (.xD (.mc .Lt (.v 2) (.v 4)) [.xD (.bo true [.mc .Eq (.s (.a (.v 1) 80) (.v 2)) (.c (.bn 0)),.v 3]) [.as (.s (.a (.v 1) 80) (.v 2)) (.m (.v 0) 95 [])] [],
 (.rt (.s (.a (.v 1) 80) (.v 2)))] []),
 (.xD (.mc .GtE (.v 2) (.m (.a (.v 0) 82) 78 [])) [.KI] []),
 (.xD (.mc .Eq (.s (.a (.v 1) 80) (.v 4)) (.c (.bn 0))) [.xD (.nt (.v 3)) [.rt (.c (.bn 0))] [],
 (.as (.s (.a (.v 1) 80) (.v 4)) (.m (.v 0) 95 []))] []),
 (.rt (.m (.v 0) 96 [.s (.a (.v 1) 80) (.v 4),.b .Sub (.v 2) (.v 4),.v 3]))]⟩
def cY:Fn:=⟨4,[],6,false,["self","names","index","make","buffer","found"],
 [.as (.v 4) (.m (.a (.v 0) 81) 4 [.v 1]),
 (.as (.v 5) (.f 64 [.a (.v 4) 46,.b .H3 (.c (.bn 4)) (.v 2)])),
 (.ex (.m (.a (.v 0) 81) 59 [.v 4])),
 (.xD (.bo true [.mc .Eq (.v 5) (.c (.bn 0)),.v 3]) [.as (.v 5) (.m (.v 0) 95 []),
 (.as (.v 4) (.m (.a (.v 0) 81) 4 [.v 1])),
 (.ex (.f 66 [.a (.v 4) 46,.b .H3 (.c (.bn 4)) (.v 2),.v 5])),
 (.ex (.m (.a (.v 0) 30) 43 [.v 4])),
 (.ex (.m (.a (.v 0) 81) 59 [.v 4]))] []),
 (.rt (.v 5))]⟩
def kX:Fn:=⟨4,[],10,false,["self","node","offset","count","end","found","start","part","number","buffer"],
 [.xD (.bo false [.mc .Lt (.v 2) (.c (.bn 0)),.mc .Lt (.v 3) (.c (.bn 0))]) [.KI] [],
 (.as (.v 4) (.bi 1 [.a (.v 1) 6,.b .s0 (.v 2) (.v 3)])),
 (.as (.v 5) (.bi 4 [])),
 (.wh (.mc .Lt (.v 2) (.v 4)) [.as (.v 6) (.b .Mod (.v 2) (.a (.a (.v 0) 82) 32)),
 (.as (.v 7) (.bi 1 [.b .Sub (.a (.a (.v 0) 82) 32) (.v 6),.b .Sub (.v 4) (.v 2)])),
 (.as (.v 8) (.m (.v 0) 97 [.v 1,.b .zn (.v 2) (.a (.a (.v 0) 82) 32),.c (.gg false)])),
 (.xD (.mc .Eq (.v 8) (.c (.bn 0))) [.ex (.m (.v 5) 3 [.bi 3 [.v 7]])] [.as (.v 9) (.m (.a (.v 0) 81) 4 [.v 8]),
 (.ex (.m (.v 5) 3 [.sl (.a (.v 9) 46) (.v 6) (.b .s0 (.v 6) (.v 7))])),
 (.ex (.m (.a (.v 0) 81) 59 [.v 9]))]),
 (.as (.v 2) (.b .s0 (.v 2) (.v 7)))]),
 (.rt (.bi 3 [.v 5]))]⟩
def gm:Fn:=⟨4,[],6,false,["self","node","offset","octets","done","part"],
 [.xD (.mc .Lt (.v 2) (.c (.bn 0))) [.KI] [],
 (.xD (.mc .Gt (.b .s0 (.v 2) (.bi 0 [.v 3])) (.m (.a (.v 0) 82) 98 [])) [.KI] []),
 (.as (.v 4) (.c (.bn 0))),
 (.wh (.bo true [.mc .Lt (.v 4) (.bi 0 [.v 3]),.mc .GtE (.m (.a (.v 0) 30) 99 []) (.g (.bn 4))]) [.as (.v 5) (.m (.v 0) 100 [.v 1,.b .s0 (.v 2) (.v 4),.v 3,.v 4]),
 (.xD (.mc .Eq (.v 5) (.c (.bn 0))) [.br] []),
 (.as (.v 4) (.b .s0 (.v 4) (.v 5)))]),
 (.xD (.bo true [.mc .Gt (.v 4) (.c (.bn 0)),.mc .Gt (.b .s0 (.v 2) (.v 4)) (.a (.v 1) 6)]) [.as (.a (.v 1) 6) (.b .s0 (.v 2) (.v 4))] []),
 (.ex (.m (.v 0) 89 [.v 1])),
 (.rt (.v 4))]⟩
def fv:Fn:=⟨5,[],9,false,["self","node","offset","octets","done","number","start","part","buffer"],
 [.tr [.as (.v 5) (.m (.v 0) 97 [.v 1,.b .zn (.v 2) (.a (.a (.v 0) 82) 32),.c (.gg true)])] 3 [.KI],
 (.as (.v 6) (.b .Mod (.v 2) (.a (.a (.v 0) 82) 32))),
 (.as (.v 7) (.bi 1 [.b .Sub (.a (.a (.v 0) 82) 32) (.v 6),.b .Sub (.bi 0 [.v 3]) (.v 4)])),
 (.as (.v 8) (.m (.a (.v 0) 81) 4 [.v 5])),
 (.as (.sl (.a (.v 8) 46) (.v 6) (.b .s0 (.v 6) (.v 7))) (.sl (.v 3) (.v 4) (.b .s0 (.v 4) (.v 7)))),
 (.ex (.m (.a (.v 0) 30) 43 [.v 8])),
 (.ex (.m (.a (.v 0) 81) 59 [.v 8])),
 (.rt (.v 7))]⟩
def jE:Fn:=⟨2,[],4,false,["numbers","size","found","value",""],
 [.xD (.mc .Gt (.b .H3 (.g (.bn 4)) (.b .s0 (.bi 0 [.v 0]) (.c (.bn 1)))) (.v 1)) [.KI] [],
 (.as (.v 2) (.bi 4 [])),
 (.oX 3 (.b .s0 (.ls [.bi 0 [.v 0]]) (.bi 5 [.v 0])) [.ex (.m (.v 2) 3 [.bi 3 [.lc (.b .GZ (.b .RShift (.v 3) (.b .H3 (.c (.bn 8)) (.v 4))) (.c (.bn 255))) 4 (.er [.g (.bn 4)]) []]])]),
 (.rt (.b .s0 (.bi 3 [.v 2]) (.bi 3 [.b .Sub (.v 1) (.bi 0 [.v 2])])))]⟩
def kV:Fn:=⟨1,[],5,false,["octets","found","place","value","octet"],
 [.as (.v 1) (.ls []),
 (.oX 2 (.er [.c (.bn 0),.b .s0 (.b .Sub (.bi 0 [.v 0]) (.g (.bn 4))) (.c (.bn 1)),.g (.bn 4)]) [.as (.v 3) (.c (.bn 0)),
 (.oX 4 (.rev (.sl (.v 0) (.v 2) (.b .s0 (.v 2) (.g (.bn 4))))) [.as (.v 3) (.b .BitOr (.b .LShift (.v 3) (.c (.bn 8))) (.v 4))]),
 (.ex (.m (.v 1) 0 [.v 3]))]),
 (.rt (.v 1))]⟩
def mz:Fn:=⟨2,[],3,false,["octets","most","rows"],
 [.as (.v 2) (.f 137 [.v 0]),
 (.xD (.bo false [.mc .Eq (.bi 0 [.v 2]) (.c (.bn 0)),.mc .Gt (.s (.v 2) (.c (.bn 0))) (.v 1),.mc .GtE (.s (.v 2) (.c (.bn 0))) (.bi 0 [.v 2])]) [.KI] []),
 (.rt (.sl (.v 2) (.c (.bn 1)) (.b .s0 (.c (.bn 1)) (.s (.v 2) (.c (.bn 0))))))]⟩
def iZ:Fn:=⟨5,[.bk],5,false,["self","cache","start","size","each"],
 [.xD (.bo false [.mc .Lt (.v 2) (.c (.bn 0)),.mc .Lt (.v 3) (.c (.bn 2)),.mc .Gt (.b .s0 (.v 2) (.v 3)) (.a (.a (.v 1) 17) 53)]) [.KI] [],
 (.as (.a (.v 0) 81) (.v 1)),
 (.as (.a (.v 0) 101) (.v 2)),
 (.as (.a (.v 0) 6) (.v 3)),
 (.as (.a (.v 0) 80) (.bi 1 [.b .Sub (.v 3) (.c (.bn 1)),.b .Sub (.b .zn (.a (.v 1) 6) (.g (.bn 4))) (.c (.bn 1))])),
 (.as (.a (.v 0) 28) (.bi 1 [.a (.v 0) 80,.b .Sub (.a (.v 1) 28) (.g (.bn 4))])),
 (.xD (.mc .Lt (.a (.v 0) 28) (.c (.bn 1))) [.KI] []),
 (.as (.a (.v 0) 42) (.qC (.mc .Is (.v 4) (.c .bk)) (.bi 1 [.g (.bn 10),.a (.v 0) 28]) (.v 4))),
 (.xD (.nt (.ju .LtE .LtE (.c (.bn 1)) (.a (.v 0) 42) (.a (.v 0) 28))) [.KI] []),
 (.as (.a (.v 0) 102) (.ls [])),
 (.as (.a (.v 0) 103) (.dc [] [])),
 (.as (.a (.v 0) 104) (.c (.bn 0))),
 (.as (.a (.v 0) 105) (.c (.bn 0)))]⟩
def gP:Fn:=⟨2,[],2,false,["self","number"],
 [.rt (.ju .LtE .Lt (.a (.v 0) 101) (.v 1) (.b .s0 (.a (.v 0) 101) (.a (.v 0) 6)))]⟩
def fx:Fn:=⟨1,[],1,false,["self"],
 [.rt (.mc .LtE (.b .s0 (.bi 0 [.a (.v 0) 102]) (.b .H3 (.b .s0 (.a (.v 0) 104) (.c (.bn 1))) (.a (.v 0) 42))) (.a (.v 0) 28))]⟩
def iY:Fn:=⟨1,[],1,false,["self"],
 [.rt (.b .Sub (.a (.v 0) 28) (.bi 0 [.a (.v 0) 102]))]⟩
def iq:Fn:=⟨1,[],1,false,["self"],
 [.xD (.nt (.m (.v 0) 106 [])) [.KI] [],
 (.je (.v 0) 104 .s0 (.c (.bn 1)))]⟩
def ez:Fn:=⟨2,[],2,false,["self","buffer"],
 [.xD (.mc .Eq (.a (.v 0) 104) (.c (.bn 0))) [.KI] [],
 (.xD (.m (.v 0) 107 [.a (.v 1) 18]) [.KI] []),
 (.xD (.mc .In (.a (.v 1) 18) (.a (.v 0) 103)) [.ex (.m (.a (.v 0) 81) 56 [.v 1]),
 .xB] []),
 (.xD (.mc .GtE (.bi 0 [.a (.v 0) 102]) (.a (.v 0) 28)) [.KI] []),
 (.ex (.m (.a (.v 0) 81) 108 [.v 1])),
 (.as (.s (.a (.v 0) 103) (.a (.v 1) 18)) (.bi 0 [.a (.v 0) 102])),
 (.ex (.m (.a (.v 0) 102) 0 [.a (.v 1) 18]))]⟩
def gp:Fn:=⟨1,[],1,false,["self"],
 [.xD (.mc .Eq (.a (.v 0) 104) (.c (.bn 0))) [.KI] [],
 (.je (.v 0) 104 .Sub (.c (.bn 1))),
 (.xD (.bo true [.mc .Eq (.a (.v 0) 104) (.c (.bn 0)),.mc .FT (.a (.v 0) 102) (.ls [])]) [.ex (.m (.v 0) 109 [])] [])]⟩
def bN:Fn:=⟨1,[],2,false,["self","number"],
 [.ex (.m (.v 0) 110 []),
 (.ex (.m (.v 0) 111 [.a (.v 0) 102])),
 (.ex (.m (.v 0) 112 [.a (.v 0) 102,.c (.gg false)])),
 (.ex (.m (.v 0) 111 [.ls []])),
 (.oX 1 (.a (.v 0) 102) [.ex (.m (.a (.v 0) 81) 113 [.v 1])]),
 (.as (.a (.v 0) 102) (.ls [])),
 (.as (.a (.v 0) 103) (.dc [] [])),
 (.je (.v 0) 105 .s0 (.c (.bn 1)))]⟩
def cg:Fn:=⟨1,[],3,false,["self","place","number"],
 [.fr [1,2] (.pI (.a (.v 0) 102)) [.ex (.m (.a (.v 0) 81) 114 [.b .s0 (.b .s0 (.a (.v 0) 101) (.c (.bn 1))) (.v 1),.m (.a (.v 0) 81) 115 [.v 2]])],
 (.ex (.m (.a (.v 0) 81) 58 []))]⟩
def bV:Fn:=⟨2,[],2,false,["self","numbers"],
 [.ex (.m (.a (.v 0) 81) 114 [.a (.v 0) 101,.f 104 [.v 1,.a (.a (.v 0) 81) 6]]),
 (.ex (.m (.a (.v 0) 81) 58 []))]⟩
def bW:Fn:=⟨3,[],6,false,["self","numbers","from_log","place","number","octets"],
 [(.fr [3,4] (.pI (.v 1)) [.as (.v 5) (.m (.a (.v 0) 81) 115 [.qC (.v 2) (.b .s0 (.b .s0 (.a (.v 0) 101) (.c (.bn 1))) (.v 3)) (.v 4)]),
 (.ex (.m (.a (.v 0) 81) 114 [.v 4,.v 5]))]),
 (.ex (.m (.a (.v 0) 81) 58 []))]⟩
def fO:Fn:=⟨1,[],4,false,["self","numbers","place","number"],
 [.as (.v 1) (.f 138 [.m (.a (.v 0) 81) 115 [.a (.v 0) 101],.a (.v 0) 80]),
 (.fr [2,3] (.pI (.v 1)) [.xD (.bo false [.mc .GtE (.v 3) (.a (.a (.a (.v 0) 81) 17) 53),.m (.v 0) 107 [.v 3],.mc .In (.v 3) (.sl (.v 1) .omit (.v 2))]) [.KI] []]),
 (.rt (.v 1))]⟩
def dA:Fn:=⟨1,[],2,false,["self","numbers"],
 [.xD (.bo false [.mc .Gt (.a (.v 0) 104) (.c (.bn 0)),.mc .FT (.a (.v 0) 102) (.ls [])]) [.KI] [],
 (.as (.v 1) (.m (.v 0) 125 [])),
 (.xD (.mc .FT (.v 1) (.ls [])) [.ex (.m (.v 0) 112 [.v 1,.c (.gg true)]),
 (.ex (.m (.v 0) 111 [.ls []]))] []),
 (.rt (.v 1))]⟩
def j7:Fn:=⟨2,[],4,false,["box","many","k","cell"],
 [.as (.v 2) (.s (.v 0) (.c (.bn 1))),
 (.as (.s (.v 0) (.c (.bn 1))) (.b .s0 (.v 2) (.c (.bn 1)))),
 (.as (.v 3) (.qC (.mc .Lt (.v 2) (.bi 0 [.s (.v 0) (.c (.bn 0))])) (.s (.s (.v 0) (.c (.bn 0))) (.v 2)) (.b .Mod (.b .H3 (.b .s0 (.s (.v 0) (.c (.bn 2))) (.c (.bn 5))) (.b .s0 (.b .s0 (.b .H3 (.v 2) (.v 2)) (.b .H3 (.c (.bn 11)) (.v 2))) (.c (.bn 17)))) (.c (.bn 1009))))),
 (.rt (.b .Mod (.v 3) (.v 1)))]⟩
def jF:Fn:=⟨1,[],2,false,["disk","journal"],
 [.as (.v 1) (.k 17 [.k 12 [.v 0,.c (.bn 12)],.c (.bn 2),.c (.bn 8)]),
 (.ex (.m (.v 1) 126 [])),
 (.rt (.k 16 [.v 1,.k 14 [.c (.bn 48),.a (.v 0) 53,.c (.bn 4),.c (.bn 8),.c (.bn 2)]]))]⟩
def n6:Fn:=⟨1,[],2,false,["nodes","node"],
 [.ex (.m (.a (.v 0) 30) 38 []),
 (.as (.v 1) (.m (.v 0) 116 [.g (.bn 2)])),
 (.as (.a (.v 1) 20) (.c (.bn 1))),
 (.ex (.m (.v 1) 89 [])),
 (.ex (.m (.v 0) 39 [.v 1])),
 (.ex (.m (.a (.v 0) 30) 40 [])),
 (.rt (.a (.v 1) 18))]⟩
def gj:Fn:=⟨3,[],3,false,["table","file","octets"],
 [.tr [.rt (.s (.m (.v 0) 43 [.v 1,.v 2]) (.c (.bn 0)))] 5 [.rt (.c .bk)]]⟩
def d7:Fn:=⟨2,[],3,false,["box","disk","way"],
 [.as (.v 2) (.f 116 [.v 0,.c (.bn 5)]),
 (.xD (.mc .Lt (.v 2) (.c (.bn 3))) [.ex (.m (.v 1) 127 [.f 116 [.v 0,.s (.ls [.c (.bn 40),.c (.bn 12),.c (.bn 90)]) (.v 2)]])] [.xD (.mc .Eq (.v 2) (.c (.bn 3))) [.ex (.m (.v 1) 128 [.f 116 [.v 0,.c (.bn 20)]])] []])]⟩
def gk:Fn:=⟨3,[],3,false,["count","done","is_whole"],
 [.rt (.qC (.v 2) (.ls [.v 0]) (.ls [.bi 1 [.v 0,.b .H3 (.c (.bn 48)) (.v 1)],.bi 1 [.v 0,.b .H3 (.c (.bn 48)) (.b .s0 (.v 1) (.c (.bn 1)))]]))]⟩
def mA:Fn:=⟨5,[],7,false,["nodes","number","base","octets","options","node","found",""],
 [.as (.v 5) (.m (.v 0) 4 [.v 1]),
 (.as (.v 6) (.m (.v 5) 41 [.c (.bn 0),.c (.bn 2000)])),
 (.rt (.mc .FT (.lc (.v 7) 7 (.v 4) [.bo true [.mc .Eq (.v 6) (.b .s0 (.v 2) (.sl (.v 3) .omit (.v 7))),.mc .Eq (.a (.v 5) 6) (.b .s0 (.bi 0 [.v 2]) (.v 7))]]) (.ls [])))]⟩
def fu:Fn:=⟨2,[],3,false,["nodes","number","used"],
 [.as (.v 2) (.b .zn (.b .s0 (.a (.m (.v 0) 4 [.v 1]) 6) (.c (.bn 47))) (.c (.bn 48))),
 (.rt (.mc .Eq (.m (.v 0) 129 []) (.b .Sub (.b .Sub (.b .Sub (.a (.a (.v 0) 82) 53) (.c (.bn 13))) (.v 2)) (.bi 22 [.mc .Gt (.v 2) (.c (.bn 2))]))))]⟩
def zK:Fn:=⟨1,[],14,false,["script","cells","box","is_short","disk","nodes","numbers","table","file","base","octets","told","gone","again","","","",""],
 [.as (.v 1) (.sl (.v 0) .omit (.c (.bn 24))),
 (.ast [.v 2,.v 3] (.tp [.ls [.v 1,.c (.bn 0),.b .Mod (.bi 6 [.v 1]) (.c (.bn 1009))],.mc .Lt (.bi 0 [.v 1]) (.c (.bn 2))])),
 (.as (.v 4) (.k 13 [.qC (.v 3) (.c (.bn 20)) (.c (.bn 32)),.c (.bn 48)])),
 (.as (.v 5) (.f 141 [.v 4])),
 (.asc 6 (.lc (.f 117 [.v 5]) 14 (.er [.qC (.v 3) (.c (.bn 1)) (.c (.bn 2))]) [])),
 (.as (.v 7) (.k 10 [.c (.bn 4),.k 7 [.c (.bn 4)],.v 5,.a (.v 5) 30,.dc [] [],.c (.bn 48)])),
 (.as (.v 8) (.m (.v 7) 118 [.m (.v 5) 4 [.s (.v 6) (.c (.bn 0))],.c (.gg false),.c (.gg true)])),
 (.as (.v 9) (.bi 3 [.lc (.b .s0 (.c (.bn 1)) (.b .Mod (.v 15) (.c (.bn 250)))) 15 (.er [.qC (.v 3) (.c (.bn 0)) (.f 116 [.v 2,.c (.bn 120)])]) []])),
 (.as (.v 10) (.bi 3 [.lc (.b .Sub (.c (.bn 255)) (.b .Mod (.v 16) (.c (.bn 250)))) 16 (.er [.b .s0 (.c (.bn 1)) (.f 116 [.v 2,.qC (.v 3) (.c (.bn 20)) (.c (.bn 200))])]) []])),
 (.xD (.bo true [.mc .FT (.v 9) (.c (.d3 [])),.bo false [.mc .FT (.f 142 [.v 7,.v 8,.v 9]) (.bi 0 [.v 9]),.mc .FT (.a (.v 8) 24) (.bi 0 [.v 9])]]) [.rt (.c (.gg false))] []),
 (.ex (.f 143 [.v 2,.v 4])),
 (.as (.v 11) (.f 142 [.v 7,.v 8,.v 10])),
 (.as (.v 12) (.b .Sub (.a (.v 8) 24) (.bi 0 [.v 9]))),
 (.xD (.bo false [.mc .NotIn (.v 11) (.ls [.c .bk,.bi 0 [.v 10]]),.mc .FT (.mc .IsNot (.v 11) (.c .bk)) (.mc .Eq (.v 12) (.bi 0 [.v 10]))]) [.rt (.c (.gg false))] []),
 (.xD (.bo true [.mc .Is (.v 11) (.c .bk),.mc .FT (.b .Mod (.v 12) (.c (.bn 48))) (.c (.bn 0))]) [.rt (.c (.gg false))] []),
 (.as (.v 13) (.f 141 [.m (.v 4) 130 [.lc (.v 17) 17 (.er [.bi 0 [.a (.v 4) 63]]) [.mc .Eq (.f 116 [.v 2,.c (.bn 2)]) (.c (.bn 0))]]])),
 (.xD (.nt (.f 145 [.v 13,.s (.v 6) (.c (.bn 0)),.v 9,.v 10,.f 144 [.bi 0 [.v 10],.b .zn (.v 12) (.c (.bn 48)),.mc .IsNot (.v 11) (.c .bk)]])) [.rt (.c (.gg false))] []),
 (.xD (.bo true [.nt (.v 3),.mc .FT (.ls [.a (.m (.v 13) 4 [.s (.v 6) (.c (.bn 1))]) 19,.a (.m (.v 13) 4 [.s (.v 6) (.c (.bn 1))]) 6]) (.ls [.g (.bn 2),.c (.bn 0)])]) [.rt (.c (.gg false))] []),
 (.rt (.f 146 [.v 13,.s (.v 6) (.c (.bn 0))]))]⟩
def Kp:am (a5×Fn):=[(9,gN),(15,ig),(18,gQ),(20,dJ),(21,fQ),(23,dI),(28,fP),(29,dB),(30,b8),(32,jI),(33,cV),(34,iw),(38,jJ),(39,i4),(41,k8),(42,fy),(43,fU),(44,i0),(45,dC),(46,ir),(47,mI),(48,jH),(49,gq),(50,gr),(51,k7),(52,hV),(54,mG),(55,fS),(56,fT),(57,mF),(58,hK),(59,mH),(60,hP),(61,fR),(62,d_),(135,k6),(63,pF),(64,pE),(65,n4),(66,nZ),(67,kU),(68,kW),(69,eH),(70,fN),(73,iS),(74,iT),(75,mD),(76,ip),(77,iX),(79,mC),(80,kZ),(82,jG),(83,mE),(85,kY),(86,eI),(87,ij),(88,iW),(89,dX),(90,iU),(92,mB),(93,fw),(94,gO),(95,eK),(136,eJ),(97,bM),(98,cY),(99,kX),(100,gm),(101,fv),(104,jE),(137,kV),(138,mz),(105,iZ),(106,gP),(107,fx),(108,iY),(109,iq),(110,ez),(111,gp),(112,bN),(113,cg),(114,bV),(115,bW),(139,fO),(140,dA),(116,j7),(141,jF),(117,n6),(142,gj),(143,d7),(144,gk),(145,mA),(146,fu),(134,zK)]
def vE:am ((a5×a5)×a5):=[((10,34),20),((10,36),21),((10,118),23),((10,44),28),((10,43),29),((10,45),30),((11,123),33),((11,57),34),((11,60),38),((11,94),39),((12,54),42),((12,56),43),((12,4),44),((12,55),45),((12,59),46),((12,108),47),((12,113),48),((12,43),49),((12,58),50),((12,115),51),((12,114),52),((13,68),55),((13,54),56),((13,41),57),((13,43),58),((13,124),59),((13,58),60),((13,127),61),((13,128),62),((13,130),135),((14,78),69),((14,98),70),((14,84),73),((14,91),74),((15,87),76),((15,90),77),((15,41),79),((15,43),80),((15,89),82),((15,86),83),((16,85),86),((16,88),87),((16,4),88),((16,116),89),((16,89),90),((16,39),92),((16,95),93),((16,92),94),((16,93),95),((16,129),136),((16,97),97),((16,96),98),((16,41),99),((16,43),100),((16,100),101),((17,107),106),((17,106),107),((17,99),108),((17,38),109),((17,43),110),((17,40),111),((17,109),112),((17,110),113),((17,111),114),((17,112),115),((17,125),139),((17,126),140)]
def sr:am (a5×a5):=[(7,9),(9,15),(10,18),(11,32),(12,41),(13,54),(14,68),(15,75),(16,85),(17,105)]
def eA:am (a5×am a5):=[(6,[5,6,7,8,9,10,11]),(7,[6,14,15]),(9,[19,21,22,23,24,25,26,27]),(10,[28,15,29,30,31,32,33]),(11,[18,46,23,47]),(12,[17,28,6,48,49,50,51,52]),(13,[53,6,61,62,63,52,64,65,66,67]),(14,[32,53,69,70,71,48,72,73,74,75,76,77]),(15,[29,18,23,19,27,79,20,6,80]),(16,[30,81,82,83]),(17,[81,101,6,80,28,42,102,103,104,105])]
def attrL:am h9:=(["append","pop","remove","extend","get","ident","size","ring","read_count","write_count","read_open","write_open","waiting","room","made","pipes","close","disk","number","kind","links","readable","writable","holders","place","pipe","node","major","most","nodes","journal","devices","block","open","need_room","make","enter","side","begin","put","end","read","each","write","piece","write_piece","data","pins","row","by_number","hits","reads","writes","blocks","need_block","make_room","need_held","octets","flush","release","fill","kept","latest","unflushed","flushes","last","last_flush","is_dead","need_power","inodes","log","direct","rows","indirect","log_start","inode_start","bitmap_start","data_start","most_blocks","minor","places","cache","super","table","row_of","need_number","hold","take_row","kind_at","update","put_row","bit_of","free_bit","clear_block","clear","take_block","named_block","block_of","most_size","left","write_part","start","numbers","noted","calls","commits","has_room","is_own","pin","commit","fill_log","write_head","install","unpin","poke","peek","allocate","stat","open_node","open_pipe","back","share","count","is_free","fail","pending","recover","stop_after","stop_at_flush","free_blocks","after"]:am z8).hC h9.ofString
end Internal
end
section
open PySem PySem.W PyProof.Rows
namespace Tactic
abbrev sF:am a9:=[.fX "ValueError",.fX "Exception",.fX "BaseException",.fX "object"]
end Tactic
namespace Internal
open Tactic
def ud(e:fY)(n:h9):ct:=aZ (eO e) λk=>k.1==n
def qS(b:am xo):ct:=Io b λs1 d=>aZ (oG s1) (λe=>aZ (cZ e.1) λc=>aZ (eB c.1) (λa=>ud a.1 "ValueError" &&(a.2.1==("__init__" :h9)&&a.2.2.endLine==c.2.2.line))&&Io c.2.1 λx y=>ud x "self" &&ud y "reason")&&
 aZ (dD d) λt=>one t.1 (λt'=>aZ (eB t') λa=>ud a.1 "self" &&a.2.1==("reason" :h9))&&ud t.2.1 "reason"
def Gq(e:fY):bS {p:am fY×Dx//e=.JoinedStr p.1 p.2}:=if h:e.b4=18 then fY.JoinedStr.ef e h λa b=>ap ⟨(a,b),rfl⟩else bk
def Jo(e:fY):bS {p:fY×Dx//e=.FormattedValue p.1 (-1) bk p.2}:=if h:e.b4=17 then fY.FormattedValue.ef e h λa c s Q=>if q:c= -1/\s=bk then ap ⟨(a,Q),by rw[q.1,q.2]⟩else bk else bk
def tM(c:KF):ct:=match c with | .J6 x=>a5.ble x.ah 100 |_=>false
def uD(b:am xo):ct:=Io b λs1 d=>aZ (oG s1) (λe=>aZ (cZ e.1) λc=>aZ (eB c.1) (λa=>ud a.1 "BoardError" &&(a.2.1==("__init__" :h9)&&a.2.2.endLine==c.2.2.line))&&Io c.2.1 λx y=>ud x "self" &&aZ (Gq y) λj=>on j.1.head? λI=>aZ (nh I) (λk=>tM k.1)&&Io j.1.sy λv w=>aZ (Jo v) (λk=>ud k.1 "writes")&&aZ (nh w) λk=>tM k.1)&&
 aZ (dD d) λt=>one t.1 (λt'=>aZ (eB t') λa=>ud a.1 "self" &&a.2.1==("writes" :h9))&&ud t.2.1 "writes"
section
variable(Q:Data)
def Gs:bS {f:xF//Q=.func f}:=if h:Q.b4=7 then Data.func.ef Q h λf=>ap ⟨f,rfl⟩else bk
def Jm:bS {p:rv a9×a5//Q=.seq p.1 p.2}:=if h:Q.b4=2 then Data.seq.ef Q h λa b=>ap ⟨(a,b),rfl⟩else bk
end
def uU(b:FuncBody):bS {l:am xo//b=.stmts l}:=match b with | .stmts l=>ap ⟨l,rfl⟩ | .expr _=>bk
def uV(a:Arguments):bS {p:am Arg×am (bS fY)×am fY//a={posonlyargs:=[],args:=p.1,vararg:=bk,kwonlyargs:=[],kw_defaults:=p.2.1,kwarg:=bk,defaults:=p.2.2}}:=
 match a with |⟨ps,as,va,ks,kd,kw,df⟩=>jY ps λb=>match va with |bk=>jY ks λc=>(match kw with |bk=>ap ⟨(as,kd,df),by exact a4.ab b (a4.ab c rfl)⟩ |ap _=>bk) |ap _=>bk
def NK(c:KF)(v:a9):ct:=match c with
 | .bn i=>match v with | .bn j _=>i==j |_=>false
 | .bk=>match v with | .bk=>true |_=>false
 |_=>false
def FU:am KF->am a9->ct
 | [],us=>us.sw
 |c::l,us=>match us with |I::m=>NK c I&&FU l m | []=>false
def CB(K:Frag)(Q:a9)(p:am a9->ct):ct:=match Q with
 | .bk=>p []
 | .bs T=>on (K.eh T) λo=>aZ (Jm o.hy) λq=>p q.1.q6
 |_=>false
def II(fd:xF)(F:Fn):Cx:=⟨F.sl,λn=>fd.jp.em.eh n,F.lam⟩
def Ln(fd:xF)(n:h9):ct:=fd.jp.em.eh n==ap .local ||fd.jp.em.eh n==ap .E2
def DZ(K:Frag)(gl:am (h9×Gl))(ev:a5->h9)(cA:e9)(cq:h9)(a:e9)(F:Fn):ct:=on (K.eh a) λo=>aZ (Gs o.hy) λfd=>fd.y0==hU&&(fd.closure.sw&&(fd.r6==DQ&&(codeIn K fd.J1 fd.DN&&(!fd.jp.DH&&(!fd.jp.DM&&(fd.jp.s9==.xL&&(CB K fd.defaults (FU F.dflt)&&
 (decide ((F.sl.m0 F.nf).p9)&&(decide (((cellsFrom 0 fd.jp.em []).hC (·.1)).p9)&&((fd.jp.em.l3 λp=> !(p.2==.j2))&&((F.sl.m0 F.nf).l3 (Ln fd)&&(a5.ble F.zs F.nf&&(a5.ble F.dflt.ah F.zs&&((!F.lam ||(fd.J1==.bs cA&&fd.DN==cq))&&(aZ (uU fd.lV) λb=>aZ (uV fd.params) λp=>
 p.1.hC (·.arg)==F.sl.m0 F.zs&&(p.1.ah==F.zs&&cD gl ev (II fd F) F.nf F.lV b))))))))))))))))
theorem mR{b:ct}(h:(!b)=true):b=false:=ct.not_eq_true' b▸h
def L8:am a5:=[39,52,64,76,88,107,169,212,0,247,371,469,588,686,785,874,1034,1159]
def Pk:am a5:=[21,36,104,124,131,138,152,159,166,188,195,202,209,0,0,230,237,244,265,272,279,286,293,300,314,319,326,333,340,347,354,361,389,396,403,410,417,424,431,438,459,487,494,501,508,515,522,529,536,543,550,557,564,571,606,613,620,627,634,641,648,655,662,697,704,711,718,725,740,747,754,761,768,775,782,803,815,822,829,836,843,850,857,864,871,892,899,906,913,921,928,935,942,956,963,970,977,991,998,1005,1012,1019,1026,1031,1043,1072,1079,1086,1093,1100,1107,1114,1121,1128,1135,1142,1170,1184,0,0,0,0,0,0,0,0,0,0,0,0,0,0,0,0,1222,669,984,1050,1057,1149,1156,1177,1191,1198,1205,1210,1217]
def kA:am a5:=[0,1,2,3,4,29,35,36,38,39,51,52,63,64,75,76,87,88,103,104,106,107,117,168,169,181,187,188,211,212,229,230,246,247,264,265,278,279,285,286,299,300,339,340,346,347,353,354,370,371,388,389,395,396,402,403,430,431,437,438,468,469,486,487,493,494,500,501,507,508,514,515,521,522,528,529,535,536,542,543,549,550,556,557,563,564,587,588,605,606,612,613,619,620,626,627,633,634,640,641,647,648,654,655,661,662,668,669,685,686,696,697,703,704,710,711,717,718,724,725,733,739,740,746,747,753,754,774,775,781,782,784,785,802,803,814,815,821,822,835,836,842,843,856,857,863,864,873,874,891,892,898,899,905,906,912,913,914,920,921,927,928,941,942,955,956,962,963,969,970,983,984,990,991,997,998,1004,1005,1011,1012,1018,1019,1033,1034,1042,1043,1049,1050,1056,1057,1065,1071,1072,1078,1079,1085,1086,1092,1093,1099,1100,1106,1107,1113,1114,1120,1121,1127,1128,1134,1135,1141,1142,1148,1149,1155,1156,1158,1159,1169,1170,1176,1177,1183,1184,1190,1191,1197,1198,1204,1205,1209,1210,1216,1217,1221,1222]
def c9:am (h9×Gl):=((["_law_blocks_right","_law_made","_law_mounted","_law_options","_law_stopped","_law_take","_law_there","_law_written","half_at","numbers_of","packed_head","put_half","put_word","read_head","rounded_up","word_at","Buffer","Cache","Crash","Disk","FileTable","Journal","NoRoom","Node","Nodes","OpenFile","PipeTable","Super","DEVICE_files","DEVICE_inodes","DIRECT","DIRECTORY","DONE","FILE","FIRST_LOG","FREE","HEAD","MOST_A_PIECE","MOST_EACH","NODE","NUMBER","PIECE","PIPE","SPARE","SUPER_WORDS","bytearray","bytes","dict","enumerate","int","isinstance","len","list","max","min","range","reversed","sum"]:am z8).hC h9.ofString).zip [.fn 146,.fn 117,.fn 141,.fn 144,.fn 143,.fn 116,.fn 145,.fn 142,.fn 63,.fn 137,.fn 104,.fn 65,.fn 66,.fn 138,.fn 67,.fn 64,.mm 11,.mm 12,.mm 5,.mm 13,.mm 10,.mm 17,.mm 3,.mm 15,.mm 16,.mm 9,.mm 7,.mm 14,.val (.J6 "device"),.val (.bn 3),.val (.bn 12),.val (.bn 1),.val (.bn 0),.val (.bn 2),.val (.bn 2),.val (.bn 0),.val (.bn 12),.val (.bn 4),.val (.bn 10),.val (.J6 "node"),.val (.bn 4),.val (.bn 16),.val (.J6 "pipe"),.val (.bn 4),.val (.bn 9),.Ly 4,.Ly 3,.Ly 7,.Ly 26,.Ly 22,.Ly 21,.Ly 0,.Ly 5,.Ly 2,.Ly 1,.Ly 25,.Ly 27,.Ly 6]
def sW(n:a5):a9:=match n with
 |0=> .eu "len" |1=> .eu "min" |2=> .eu "max" |3=> .fX "bytes" |4=> .fX "bytearray" |5=> .fX "list" |6=> .eu "sum" |7=> .fX "dict"
 |21=> .eu "isinstance" |22=> .fX "int" |25=> .fX "range" |27=> .fX "reversed" |_=> .fX "enumerate"
section
variable(K:Frag)(ev:a5->h9)(fa mm:a5->e9)
def Aa(C:e9)(as:am a5):ct:=plainGet K C "" &&(hasDictIn K C&&(plainOver K C&&(H5 K (.bs C) "__setattr__" ==ap (ap (.eu "object.__setattr__"))&&(as.l3 (λn=>H5 K (.bs C) (ev n)==ap bk)&&(H5 K (.bs C) "__eq__" ==ap (ap (.eu "object.__eq__"))&&mroIn K C (.fX "object")==ap true)))))
def IB(c:KF)(v:a9):ct:=match c with
 | .bn i=>match v with | .bn j _=>i==j |_=>false
 | .J6 x=>match v with | .J6 y _=>x==y |_=>false
 |_=>false
def DX(p:h9×Gl):ct:= !(p.1==("__name__" :h9))&&(!(p.1==("__debug__" :h9))&&(match p.2 with
 | .fn f=>nsIn K hU p.1==ap (ap (.bs (fa f)))&&Kr K (.bs (fa f))
 | .mm t=>nsIn K hU p.1==ap (ap (.bs (mm t)))&&Kr K (.bs (mm t))
 | .val c=>on (nsIn K hU p.1) λo=>on o λv=>IB c v
 | .Ly n=>nsIn K hU p.1==ap bk&&bootBuiltins p.1==ap (sW n)))
def vD(C:e9)(as:am a5)(f8 eo:a5):ct:=H5 K (.bs C) (ev f8)==ap (ap (.bs (fa eo)))&&(isFn K (.bs (fa eo))&&(Kr K (.bs (fa eo))&&as.l3 λa=> !(ev a==ev f8)))
def vK(C:e9)(eo:a5):ct:=makesIn K C&&(H5 K (.bs C) "__init__" ==ap (ap (.bs (fa eo)))&&isFn K (.bs (fa eo)))
def zR(C fI:e9)(rs:am e9)(p:ro->ct):ct:=on (clsIn K C) λcd=>on (K.eh C) λo=>o.mm==.fX "type" &&((o.vT.q6[4]?).join==ap (.eu "ValueError.__new__")&&(!cd.hasDel&&(!cd.abstract&&(cd.hasDict&&(cd.mro==rs.hC a9.bs++sF&&(cd.mro.b6 (.bs C)&&(specialIn K (.bs C) "__call__" ==ap (ap (.eu "type.__call__"))&&
 (instIn K (.bs C) (.fX "type")==ap true&&(H5 K (.bs C) "__init__" ==ap (ap (.bs fI))&&(typeIn K (.bs fI)==ap (.fX "function")&&(H5 K (.bs C) "__setattr__" ==ap (ap (.eu "object.__setattr__"))&&(KT K C "reason" ==ap bk&&(Kr K (.bs C)&&p cd)))))))))))))
def zS(fI:e9):ct:=on (K.eh fI) λo=>aZ (Gs o.hy) λfd=>fd.y0==hU&&(fd.closure.sw&&(fd.r6==DQ&&(codeIn K fd.J1 fd.DN&&(!fd.jp.DH&&(!fd.jp.DM&&(fd.jp.s9==.xL&&(fd.jp.em.eh ("self" :h9)==ap .local&&(fd.jp.em.eh ("reason" :h9)==ap .local&&(fd.jp.em.eh ("ValueError" :h9)==ap .sB&&
 (nsIn K hU "ValueError" ==ap bk&&((match findCls K (.fX "ValueError") (.fX "type") "__init__" with |ap (.val v)=>v==.eu "ValueError.__init__" |_=>false)&&(CB K fd.defaults (λa=>a5.ble a.ah 2)&&aZ (uU fd.lV) λb=>qS b&&aZ (uV fd.params) λp=>p.1.hC (·.arg)==[("self" :h9),"reason"]))))))))))))
def Ee(fI C0 fB:e9):ct:=on (K.eh fI) λo=>aZ (Gs o.hy) λfd=>fd.y0==hU&&(fd.closure.sw&&(fd.r6==DQ&&(codeIn K fd.J1 fd.DN&&(!fd.jp.DH&&(!fd.jp.DM&&(fd.jp.s9==.xL&&(fd.jp.em.eh ("self" :h9)==ap .local&&(fd.jp.em.eh ("writes" :h9)==ap .local&&(fd.jp.em.eh ("BoardError" :h9)==ap .sB&&
 (nsIn K hU "BoardError" ==ap (ap (.bs C0))&&(specialIn K (.bs C0) "__getattribute__" ==ap (ap (.eu "type.__getattribute__"))&&(typeIn K (.bs C0)==ap (.fX "type")&&(readsIn K C0 (.fX "type")&&((match findCls K (.bs C0) (.fX "type") "__init__" with |ap (.val v)=>v==.bs fB |_=>false)&&(Kr K (.bs fB)&&(CB K fd.defaults (λa=>a5.ble a.ah 2)&&aZ (uU fd.lV) λb=>uD b&&aZ (uV fd.params) λp=>p.1.hC (·.arg)==[("self" :h9),"writes"]))))))))))))))))
end
def CM(t:a5):a5:=L8.ww t 0
def nY(f:a5):a5:=Pk.ww f 0
def tc(n:a5):h9:=attrL.ww n ""
def me(t:a5):am a5:=(eA.eh t).ww []
def Pj(K:Frag)(ev:a5->h9)(f:a5)(F:Fn):ct:=DZ K c9 ev 0 "" (nY f) F
def Ae(K:Frag)(ev:a5->h9)(mm:a5->e9)(H4:a5->am a5):ct:=eA.l3 (λp=>Aa K ev (mm p.1) p.2)&&(c9.l3 (DX K nY mm)&&(vE.l3 (λp=>(eA.eh p.1.1).z_&&vD K ev nY (mm p.1.1) (H4 p.1.1) p.1.2 p.2)&&(sr.l3 (λp=>(eA.eh p.1).z_&&vK K nY (mm p.1) p.2)&&
 (Kp.l3 (λp=>Pj K ev p.1 p.2)&&(zR K (mm 5) (nY 2) [mm 5,mm 0] (λZ=>true)&&(KT K (mm 5) "writes" ==ap bk&&(zS K (nY 1)&&(Ee K (nY 2) (mm 0) (nY 1)&&(K.eh sysModules).z_))))))))
theorem s_:(attrL.p9/\eA.l3 (λp=>p.2.l3 λa=>a5.Ly a attrL.ah)=true):=by decide+kernel
theorem bU{κ α:Type} [BEq κ] [LawfulBEq κ]{n:κ}{c:α}{l:am (κ×α)}:l.eh n=ap c->(n,c)∈l:=by
 induction l with
 |iv=>exact λh=>a4.dE h
 |d2 p l a=>
  intro h;rw[am.lookup_cons]at h;by_cases q:(n==p.1)=true
  ·replace h:=q▸h;cases h;exact a4.ab (cx q) (.sk _)
  ·replace h:=(ct.sA.ow q)▸h;exact .sy _ (a h)
def JJ(D:Wd)(fa:a5->e9)(gl:am (h9×Gl)):Prop:=∀id g,gl.eh id=ap g->id≠ "__name__" /\(id==("__debug__" :h9))=false/\match g with
 | .fn f=>nsIn D.K hU id=ap (ap (.bs (fa f)))/\Kr D.K (.bs (fa f))=true
 | .mm t=>nsIn D.K hU id=ap (ap (.bs (D.mm t)))/\Kr D.K (.bs (D.mm t))=true
 | .val c=>∃I,nsIn D.K hU id=ap (ap I)/\(match c with | .bn i=>∃t,I=.bn i t | .J6 x=>∃t,I=.J6 x t |_=>uk)
 | .Ly n=>nsIn D.K hU id=ap bk/\bootBuiltins id=ap (sW n)
structure vf(D:Wd)(fa:a5->e9)(t f8 eo:a5):Prop where
 mm:GO D t
 find:H5 D.K (.bs (D.mm t)) (D.ev f8)=ap (ap (.bs (fa eo)))
 fn:isFn D.K (.bs (fa eo))=true
 j1:Kr D.K (.bs (fa eo))=true
 py:∀a,(D.H4 t).b6 a=true->D.ev a≠D.ev f8
structure A5(D:Wd)(fa:a5->e9)(t eo:a5):Prop where
 mm:GO D t
 makes:makesIn D.K (D.mm t)=true
 find:H5 D.K (.bs (D.mm t)) "__init__" =ap (ap (.bs (fa eo)))
 fn:isFn D.K (.bs (fa eo))=true
def z9(n:a5):bS h9:=match n with |0=>ap "append" |1=>ap "pop" |2=>ap "remove" |3=>ap "extend" |4=>ap "get" |_=>bk
def Dj(_:Wd)(_:a9)(_:h9):Prop:=Fw
section
variable{D:Wd}{fa:a5->e9}{t f8 eo:a5}
abbrev oj:Prop:=∀(h:Aa D.K D.ev (D.mm t) (D.H4 t)=true),GO D t
theorem FV:∀{D t},@oj D t:=by refine λ{D t}=>a4.cK (q:=a4.EH @oj) ((?_:∀D t,@oj D t) _ _) (D,t);intro D t h;haveI h1:=ai h;haveI h2:=ai h1;haveI h3:=ai h2;haveI h4:=ai h3;haveI h5:=ai h4;exact⟨λn=>ao h,ao h1,ao h2,cx (ao h3),λn q=>cx (am.nw.mp (ao h4) n (am.fA.mp q)),cx (ao h5),cx (ai h5)⟩
theorem IA{c:KF}{v:a9}:IB c v=true->match c with | .bn i=>∃t,v=.bn i t | .J6 x=>∃t,v=.J6 x t |_=>uk:=by
 intro h;cases c with
 |bn i=>cases v with
  |bn j t=>exact⟨t,b5 (a9.bn · t) (cx h).symm⟩
  |_=>exact a4.dP h
 |J6 i=>cases v with
  |J6 j t=>exact⟨t,b5 (a9.J6 · t) (cx h).symm⟩
  |_=>exact a4.dP h
 |_=>exact a4.dP h
theorem IE{gl:am (h9×Gl)}(h:gl.l3 (DX D.K fa D.mm)=true):JJ D fa gl:=λid g b=>by
 have y:=am.nw.mp h _ (bU b);haveI a:=ai (ai y);refine a4.ix (λe=>a4.mj ((wn.ow e).symm.trans (mR (ao y)))) (mR (ao (ai y))) ?_;clear y b h gl;cases g with
 |fn f=>exact⟨cx (ao a),ai a⟩
 |mm t=>exact⟨cx (ao a),ai a⟩
 |Ly n=>exact⟨cx (ao a),cx (ai a)⟩
 |val c=>
  refine a4.aD λm d=>a4.ar (cU a) λo i j=>a4.ar (cU j) λv k l=>?_;apply d;clear d;exact a4.aR v (i.trans (b5 ap k)) (IA l)
theorem B4(c:GO D t)(h:vD D.K D.ev fa (D.mm t) (D.H4 t) f8 eo=true):vf D fa t f8 eo:=
 ⟨c,cx (ao h),ao (ai h),ao (ai (ai h)),λa q e=>a4.mj ((wn.ow e).symm.trans (mR (am.nw.mp (ai (ai (ai h))) a (am.fA.mp q))))⟩
theorem Cb(c:GO D t)(h:vK D.K fa (D.mm t) eo=true):A5 D fa t eo:=⟨c,ao h,cx (ao (ai h)),ai (ai h)⟩
end
structure Gd where
 D:Wd
 Pp:D.mm=CM
 D_:D.ev=tc
 uA:D.H4=me
 Pl:D.DD=bk
 tB:D.lv->Ae D.K D.ev D.mm D.H4=true
 dW:D.lv->D.K.In D.hE
 top:D.lv->∃p zm mg mb,TopRead p zm mg mb D.hE
instance:ru Gd:=⟨⟨⟨yT,z7.choice inferInstance,yT,yT,CM,tc,me,yT,{},yT,bk,uk⟩,rfl,rfl,rfl,rfl,uk.ef,uk.ef,uk.ef⟩⟩
def Fin(D:Wd):Prop:=∀ob (cC:am b0) d,d.ed 99 0=ap (.fix ob (cC.hC .bn))->cC.ah<=1000->(∀t,t≠99->d.gz t=0)->∃m,(∀A P s us,St D P d s->iB 0 true A P s.bh 23->aA P d s.bh [.bs 99 0] us->AZ D A P d s (.ok (.gg true) m) (.ng (.bs (nY 134)) ⟨us,[]⟩))/\m.ed 99 0=ap (.fix ob (cC.hC .bn))
def G:Gd:=z7.epsilon λG=>¬Fin G.D
theorem fin(h:Fin G.D)(a:Gd){D:Wd}(e:a.D=D):Fin D:=e▸z7.Gr λn=>z7.epsilon_spec (p:=λG=>¬Fin G.D) ⟨a,n⟩ h
theorem sZ{t a:a5}(h:(G.D.H4 t).b6 a=true):∃as,eA.eh t=ap as/\a∈as:=by
 rw[G.uA]at h;have m:=am.fA.mp h;unfold me at m;cases e:eA.eh t with
 |bk=>replace m:=e▸m;exact a4.bC m
 |ap as=>replace m:=e▸m;exact a4.aR as rfl m
theorem xp{a b:a5}(ha:a<attrL.ah)(hb:b<attrL.ah)(e:G.D.ev a=G.D.ev b):a=b:=by rw[G.D_]at e;unfold tc at e;rw[am.y2,am.y2,am.wE ha,am.wE hb]at e;exact(am.getElem_inj s_.1).mp e
theorem vY{t a:a5}(h:(G.D.H4 t).b6 a=true):a<attrL.ah:=
 a4.ar (sZ h) λas e m=>a5.ft (am.nw.mp (am.nw.mp s_.2 _ (bU e)) a m)
theorem G.cl(l:G.D.lv){t:a5}(q:(eA.eh t).z_=true):GO G.D t:=
 a4.aN (bS.v8.mp q) λas e=>FV (by rw[G.uA];delta me;exact a4.ab e (am.nw.mp (ao (G.tB l)) _ (bU e)))
theorem G.ok(l:G.D.lv):Ok G.D:=⟨G.dW l,G.top l,λt t' a b q c e=>xp (vY q) (vY c) e,λt a q=>G.cl l (a4.ar (sZ q) λas e Z=>a4.ab e rfl),(bS.v8.mp (ai (ai (ai (ai (ai (ai (ai (ai (ai (G.tB l))))))))))).DO λo e=>G.dW l _ _ e⟩
theorem G.ID(l:G.D.lv):JJ G.D nY c9:=IE (ao (ai (G.tB l)))
theorem G.meths(l:G.D.lv)(t f8 eo:a5)(q:vE.eh (t,f8)=ap eo):vf G.D nY t f8 eo:=by haveI y:=am.nw.mp (ao (ai (ai (G.tB l)))) _ (bU q);exact B4 (G.cl l (ao y)) (ai y)
theorem G.H0(l:G.D.lv)(t eo:a5)(q:sr.eh t=ap eo):A5 G.D nY t eo:=by haveI y:=am.nw.mp (ao (ai (ai (ai (G.tB l))))) _ (bU q);exact Cb (G.cl l (ao y)) (ai y)
theorem G.em:∀n x,z9 n=ap x->G.D.ev n=x:=λn x q=>by
 rw[G.D_];rcases n with _ |_ |_ |_ |_ |n
 all_goals first |exact bS.ap.zv q |exact a4.dE q
end Internal
end
section
namespace Internal
structure rC(C:Cx)(u:Cg):Prop where
 kd:∀n,u.n1 n=C.kd n
 J1:C.J1=true->Dj G.D u.J1 u.qual
structure o9(lp:ct)(Q:a5)(C:Cx)(A:ec)(u:Cg)(vs:am V)(P:Ph)(d:H)(s:a6):Prop where
 S:St G.D P d s
 F:Fm C.sl u vs P d s.bh
 k:rC C u
 ac:Ac lp A P s.bh Q
section
variable(lp:ct)(Q:a5)
def EX(vs:am V)(d:H)(x:X)(r:R V):Prop:=∀C e,aM c9 G.D.ev C x e=true->∀A u P s,o9 lp Q C A u vs P d s->aC G.D bk A VS P d s r (a8.pa e u)
def ET(vs:am V)(d:H)(x:X)(r:R ct):Prop:=∀C e,aM c9 G.D.ev C x e=true->∀A u P s,o9 lp Q C A u vs P d s->aC G.D bk A VB P d s r (isTrue e u (a8.pa e u))
def EL(vs:am V)(d:H)(xs:am X)(r:R (am V)):Prop:=∀C es,fK c9 G.D.ev C xs es=true->(∀u bv,(Fu bv (tC es u)).any (·.1)=false)/\∀A u P s bv,o9 lp Q C A u vs P d s->aC G.D bk A NU P d s r (spliced (Fu bv (tC es u)))
def EA(a:ct)(vs:am V)(d:H)(xs:am X)(r:R ct):Prop:=∀C es,fK c9 G.D.ev C xs es=true->∀A u P s,o9 lp Q C A u vs P d s->aC G.D bk A VB P d s r (allTrue (if a then .And else .Or) es u)
structure CA(f:a5)(ci:am V)(d:H)(r:R V):Prop where
 go:∀A P s us,St G.D P d s->iB 0 lp A P s.bh Q->aA P d s.bh ci us->AZ G.D A P d s r (.ng (.bs (nY f)) ⟨us,[]⟩)
end
section
variable{lp:ct}{Q:a5}{C:Cx}{A:ec}{u:Cg}{vs:am V}{P P':Ph}{d U ay:H}{s s':a6}{x y:X}{v w:V}{r:R V}{b:ct}
theorem o9.on(a:o9 lp Q C A u vs P d s)(S:St G.D P' U s')(X:At bk P P' d U s.bh s'.bh):o9 lp Q C A u vs P' U s':=⟨S,a.F.kx X,a.k,a.ac.mr X⟩
theorem um{id:h9}{g:Gl}(h:Kn c9 C id g=true):c9.eh id=ap g/\C.kd id=ap .sB:=
 ar (cU (ao h)) λy e q=>⟨Gl.HY q▸e,cx (ai h)⟩
theorem kR(a:o9 lp Q C A u vs P d s){id:h9}{bv:Dx}{g:Gl}(h:Kn c9 C id g=true){E:a9->a6->Prop}{L:a9->a6->Prop}
  (k:∀I,(match g with | .fn f=>I=.bs (nY f) | .mm t=>I=.bs (G.D.mm t) | .val c=>aF P d s.bh (tI c) I | .Ly n=>I=sW n)->E I s):ch (dd G.D.bZ G.D.w) A (a8.pa (.r0 id bv) u) E L s:=by
 obtain⟨hg,l⟩:=um h;rw[←a.k.kd]at l;haveI h1:=(G.ID a.S.lv id g hg).1;haveI h2:=(G.ID a.S.lv id g hg).2.1;haveI h3:=(G.ID a.S.lv id g hg).2.2;refine rK (G.ok a.S.lv).top λp zm y z T=>?_;have v:∀b o,G.D.hE.ck b=ap o->s.bh.ck b=ap o:=λb o e=>(a.S.h.tg b o e).1;haveI j:=T.g.Lx v;haveI w:=T.b.Lx v;replace j:=a.F.glob.symm▸j;rw[←a.F.Ly]at w;have r:∀I,nsIn G.D.K hU id=ap (ap I)->E I s->ch (dd G.D.bZ G.D.w) A (a8.pa (.r0 id bv) u) E L s:=λI e q=>
  cl (Calls.DV a.F.s9 l (Calls.loadGlobal_global j (mg_of (G.ok a.S.lv).dW T.g e) q) h2)
 clear v hg h;cases g with
 |fn f=>exact r _ h3.1 (k _ rfl)
 |mm t=>exact r _ h3.1 (k _ rfl)
 |val c=>
  obtain⟨I,e,m⟩:=h3;refine r I e (k I ?_);clear e r j w T z y zm p h2 h1 l k L E bv id a;cases c with
  |bn i=>exact m
  |J6 x=>exact m
  |_=>exact m.ef
 |Ly n=>exact cl (Calls.DV a.F.s9 l (Calls.loadGlobal_builtin j (mg_none_of (G.ok a.S.lv).dW T.g h3.1) w ((T.r6 id h1).trans h3.2) (k _ rfl)) h2)
theorem j5{e:fY}{g:Gl}(h:oN c9 C e g=true):∃id bv,e=.r0 id bv/\Kn c9 C id g=true:=
 ar (aj h) λp e q=>gZ p.1 p.2 e q
theorem rN{id:h9}(k:rC C u)(h:rO (C.kd id)=true):u.n1 id=ap .local\/u.n1 id=ap .E2\/u.n1 id=ap .j2:=by
 rw[k.kd];rcases ct.x2.mp h with h |h
 ·exact(ct.x2.mp h).DO cx λq=> .u0 (cx q)
 ·exact .wl (.wl (cx h))
theorem yN{b:ct}(h:(!b)=true):b=false:=by cases b<;>first |rfl |exact dP h
theorem EX.const{c:KF}(b:tI c≠ .i1):EX lp Q vs d (.c c) (.ok (tI c) d):=λC e h A u P s a=>by
 refine ar (aj h) λp f q=>?_;clear h;subst f;show aC G.D bk A VS P d s _ (constValue u p.1);rw[cx q];exact wq a.S b
theorem EX.var{i:a5}(b:vs[i]?=ap v)(c:v≠ .i1):EX lp Q vs d (.v i) (.ok v d):=λC e h A u P s a=>by
 refine ar (aj h) λp f q=>?_;clear h;subst f;exact Bs a.S a.F (cx (ao q)) b c (rN a.k (ao (ai q))) (yN (ao (ai (ai q)))) (yN (ai (ai (ai q))))
theorem EX.glob{c:KF}:EX lp Q vs d (.g c) (.ok (tI c) d):=λC e h A u P s a=>by
 refine aO (j5 h) λid bv b q=>?_;clear h;subst b;exact λE L k=>kR a q λI r=>k I s P a.S .hJ r
theorem eL{o:fY}{ev:h9}{u:Cg}{w:xE a9}(h:iN o=true):attributeBase o ev u w=w:=by
 unfold iN at h;simp only[ct.or_eq_true]at h;rcases h with((h |h) |h) |h
 ·refine ar (aj h) λZ a Z=>?_;clear h;subst a;rfl
 ·refine ar (aj h) λZ a Z=>?_;clear h;subst a;rfl
 ·refine ar (aj h) λZ a Z=>?_;clear h;subst a;rfl
 ·refine ar (aj h) λp a h2=>?_;clear h;subst a;exact ar (aj h2) λZ z Z=>ab z rfl
theorem EX.ev{t k n:a5}{fs:am (a5×V)}(c:EX lp Q vs d x (.ok (.bs t k) U))(f:U.ed t k=ap (.qD fs))(g:nX fs n=ap v):EX lp Q vs d (.a x n) (.ok v U):=λC e h A u P s a=>by
 refine ar (aj h) λp i q=>?_;clear h;subst i;refine ab (cx (ao q)) ?_;show aC G.D bk A VS P d s _ (do let o'←attributeBase p.1 (G.D.ev n) u (a8.pa p.1 u);kK p.2.2.atName;let r←a8.ff [o'] (getAttr o' (G.D.ev n) true);letTemporaryGo p.1 o' r;h8 r);refine ab (eL (ao (ai q))) (aC.tb (c C p.1 (ai (ai q)) A u P s a) λI s' P' S' j r=>aC.aU ?_);clear j a s P u c;obtain rfl:I=_:=r.1;exact aC.sy (aC.ff (rY (G.ok S'.lv) S' f g)) λb E L s' q=>aa (cl (J_ (af q)))
theorem d5{e:fY}{r:am fY}{u:Cg}(h:bc e=true):tC (e::r) u=(false,a8.pa e u)::tC r u:=by cases e<;>first |rfl |exact dP h
theorem EL.iv:EL lp Q vs d [] (.ok [] d):=λC es h=>by
 obtain rfl:es=[]:=am.sn.mp h;exact⟨λZ Z=>rfl,λA u P s bv a=>aC.h8 a.S rfl⟩
theorem eY{xs:am X}{es:am fY}(h:fK c9 G.D.ev C (x::xs) es=true):∃e r,es=e::r/\bc e=true/\aM c9 G.D.ev C x e=true/\fK c9 G.D.ev C xs r=true:=by
 cases es with
 |iv=>exact dP h
 |d2 e r=>exact nj e r rfl (ao (ao h)) (ai (ao h)) (ai h)
theorem rU{e:fY}{r:am fY}{u:Cg}{bv:Dx}(h:bc e=true)(b:∀u bv,(Fu bv (tC r u)).any (·.1)=false):(Fu bv (tC (e::r) u)).any (·.1)=false:=
 ab (d5 h) (b u bv)
theorem EL.d2{xs:am X}{ws:am V}(c:EX lp Q vs d x (.ok v U))(b:EL lp Q vs U xs (.ok ws ay)):EL lp Q vs d (x::xs) (.ok (v::ws) ay):=λC es h=>by
 refine iy (eY h) λe r f h1 h2 h3=>?_;clear h;subst f;refine⟨λu bv=>rU h1 (b C r h3).1,λA u P s bv a=>ab (d5 h1) (aC.tb (c C e h2 A u P s a) λI s' P' S' g q=>?_)⟩;show aC G.D bk A NU P' U s' _ (a8.ff [I] (spliced (Fu bv (tC r u)))>>=λr=>h8 ([I] ++r));exact aC.tb (aC.ff ((b C r h3).2 A u P' s' bv (a.on S' g))) λus l cS i j k=>aC.h8 i ⟨I,us,rfl,q.kx j.q7,k⟩
theorem dS(S:St G.D P d s){I:a9}(r:aF P d s.bh (.gg b) I):aC G.D bk A VB P d s (.ok b d) (truthy I):=λE L k=>by
 obtain rfl:I=_:=r;exact cl (wpAny_truthy_bool (k b s P S .hJ rfl))
def Bh(x:X):ct:=x.b4==3 ||x.b4==4 ||x.b4==5 ||x.b4==15 ||x.b4==20 ||x.b4==21 ||x.b4==18
theorem ET.rE(k:Bh x=true)(l:EX lp Q vs d x (.ok (.gg b) U)):ET lp Q vs d x (.ok b U):=λC e h A u P s a=>by
 haveI key:isTrue e u (a8.pa e u)=(a8.pa e u>>=λv=>kK e.pos>>=λZ=>a8.ff [v] (truthy v)):=by
  clear l;cases x with
  |v i=>refine ar (aj h) λZ j Z=>?_;clear a s P A h k;subst j;rfl
  |g c=>refine aO (j5 h) λZ Z p Z=>?_;clear a s P A h k;subst p;rfl
  |a x n=>refine ar (aj h) λZ j Z=>?_;clear a s P A h k;subst j;rfl
  |f i es=>refine ar (aj h) λZ j Z=>?_;clear a s P A h k;subst j;rfl
  |m o i es=>refine ar (aj h) λZ j Z=>?_;clear a s P A h k;subst j;rfl
  |s o i=>refine ar (aj h) λZ j Z=>?_;clear a s P A h k;subst j;rfl
  |mu o=>refine ar (aj h) λZ j Z=>?_;clear a s P A h k;subst j;rfl
  |_=>exact dP k
 exact ab key (aC.tb (l C e h A u P s a) λI s' P' S' q r=>aC.aU (aC.ff (dS S' r)))
theorem ET.not(c:ET lp Q vs d x (.ok b U)):ET lp Q vs d (.nt x) (.ok (!b) U):=λC e h A u P s a=>by
 refine ar (aj h) λp f q=>?_;subst f;refine ab (cx (ao q)) ?_;exact aC.tb (c C p.2.1 (ai q) A u P s a) λI s' P' S' g r=>aC.h8 S' (b5 _ r)
theorem lC{a:ct}{e:fY}{r:am fY}:allTrue (if a then .And else .Or) (e::r) u=(isTrue e u (a8.pa e u)>>=λt=>if t=a then allTrue (if a then .And else .Or) r u else h8 t):=by cases a<;>exact b5 (isTrue e u (a8.pa e u)>>=·) (funext λt=>by cases t<;>rfl)
theorem EA.iv{a:ct}:EA lp Q a vs d [] (.ok a d):=λC es h A u P s b=>by
 obtain rfl:es=[]:=am.sn.mp h;cases a<;>exact aC.h8 b.S rfl
theorem EA.go{a:ct}{xs:am X}{r:R ct}(b:ET lp Q vs d x (.ok a U))(f:EA lp Q a vs U xs r):EA lp Q a vs d (x::xs) r:=λC es h A u P s c=>by
 refine iy (eY h) λe r g h1 h2 h3=>?_;clear h1 h;subst g;refine ab lC (aC.tb (b C e h2 A u P s c) λI s' P' S' i q=>?_);clear h2 e b;obtain rfl:I=a:=q;exact ab (et rfl) (f C r h3 A u P' s' (c.on S' i))
theorem EA.stop{a:ct}{xs:am X}(b:ET lp Q vs d x (.ok (!a) U)):EA lp Q a vs d (x::xs) (.ok (!a) U):=λC es h A u P s c=>by
 refine iy (eY h) λe r f h1 h2 h3=>?_;clear h3 h1 h xs;subst f;rw[lC];refine aC.tb (b C e h2 A u P s c) λI s' P' S' g q=>?_;clear g h2 e c s P C b;obtain rfl:I= !a:=q;rw[dx (by clear S' P' s' r u A;cases a<;>exact ct.HD)];exact aC.h8 S' rfl
theorem ET.bo{a:ct}{xs:am X}{r:R ct}(b:EA lp Q a vs d xs r):ET lp Q vs d (.bo a xs) r:=λC e h A u P s c=>by
 refine ar (aj h) λp f q=>?_;clear h;subst f;exact ab (cx (ao q)) (b C p.2.1 (ai q) A u P s c)
theorem EX.qC{t y:X}(ht:ET lp Q vs d t (.ok b U))(f:EX lp Q vs U (if b then x else y) r):EX lp Q vs d (.qC t x y) r:=λC e h A u P s a=>by
 refine ar (aj h) λp i q=>?_;clear h;subst i;show aC G.D bk A VS P d s _ (isTrue p.1 u (a8.pa p.1 u)>>=λc=>if c then a8.pa p.2.1 u else a8.pa p.2.2.1 u);refine aC.tb (ht C p.1 (ao q) A u P s a) λI s' P' S' g z=>?_;clear ht;obtain rfl:I=b:=z;cases I with
 |true=>exact f C p.2.1 (ao (ai q)) A u P' s' (a.on S' g)
 |false=>exact f C p.2.2.1 (ai (ai q)) A u P' s' (a.on S' g)
end
section
variable{lp:ct}{Q:a5}{C:Cx}{A:ec}{u:Cg}{vs:am V}{P P':Ph}{d U ay:H}{s s':a6}{x y:X}{v w:V}{r:R V}{b:ct}{es:am X}{ws:am V}
def Keeps(f:a9):Prop:=∀h,G.D.K.In h->∃k,(k=Keeper.f5\/k=Keeper.machine\/k=Keeper.boundFrame)/\r5 (dd G.D.bZ G.D.w) h (keeperOf f) k
theorem cB{f:a9}(e:keeperOf f=h8 .machine):Keeps f:=λh Z=>aR .machine (.wl (.u0 rfl)) (r5.of_pure e)
theorem nQ{f:a9}(e:Kr G.D.K f=true):Keeps f:=λh x=>keeps_K e h x
theorem bE{α γ:Type}{VR:α->a9->Ph->H->d4->Prop}{VA:γ->am a9->Ph->H->d4->Prop}{a:γ}{r:R α}{f:a9}{b:am a9}{bv:Dx}{ci:am (ct×xE a9)}(c:ci.any (·.1)=false)(e:Keeps f)(x:aC G.D bk A VA P d s (.ok a U) (spliced ci))
  (y:∀us s' P',St G.D P' U s'->At bk P P' d U s.bh s'.bh->VA a us P' U s'.bh->aC G.D bk A VR P' U s' r (a8.ng f (b++us) [])):aC G.D bk A VR P d s r (callWith bv f b ci []):=
 λE L k=>fW c e (x _ L λus s' P' S' X v=>⟨S'.dW (G.ok S'.lv),y us s' P' S' X v E L (k.Lz X)⟩)
theorem dY{α:Type}{VR:α->a9->Ph->H->d4->Prop}{r:R α}{e:fY}{g:Gl}{f:a9}{a:am fY}{bv:Dx}(h:oN c9 C e g=true)(b:o9 lp Q C A u vs P d s)(hf:∀I,(match g with | .fn f=>I=.bs (nY f) | .mm t=>I=.bs (G.D.mm t) | .val c=>aF P d s.bh (tI c) I | .Ly n=>I=sW n)->I=f)
  (q:aC G.D bk A VR P d s r (callWith bv f [] (Fu bv (tC a u)) [])):aC G.D bk A VR P d s r (a8.pa (.Call e a [] bv) u):=by refine aO (j5 h) λid p i hg=>?_;subst i;intro E L k;exact aa (kR b hg λI e=>ab (hf I e) (q E L k))
theorem sv(lv:G.D.lv){e:fY}{g:Gl}(h:oN c9 C e g=true):match g with | .fn f=>Kr G.D.K (.bs (nY f))=true | .mm t=>Kr G.D.K (.bs (G.D.mm t))=true |_=>Fw:=by
 refine aO (j5 h) λid p Z hg=>?_;have z:=(G.ID lv _ _ (um hg).1).2.2;clear hg;cases g with
 |fn f=>exact z.2
 |mm f=>exact z.2
 |_=>trivial
theorem EX.ng{f:a5}(b:EL lp Q vs d es (.ok ws U))(c:CA lp Q f ws U r):EX lp Q vs d (.f f es) r:=λC e h A u P s a=>by
 refine ar (aj h) λp g q=>?_;clear h;subst g;haveI z:=b C p.2.1 (ai q);exact dY (ao q) a (λI e=>e) (bE (z.1 _ _) (nQ (sv a.S.lv (ao q))) (z.2 A u P s p.2.2 a) λus s' P' S' X r=>(c.go A P' s' us S' (a.ac.mr X).ng r).sim)
theorem dV{o:fY}{wQ:h9}{b bv:Dx}{a:a9}{n:a5}{ci:am (ct×xE a9)}(h1:ci.any (·.1)=false)(h2:n<29)(h3:(b.endLine==bv.line)=true):
  methodCall o wQ b bv u a n ci []=(a8.ff [a] (getMethod a wQ (do return(←importBound o u).ww true))>>=λc=>callWith bv c.1 c.2 ci []):=by
 haveI f:methodCallForm n ci []=true:=by
  unfold methodCallForm;refine ab (show ci.l3 (λx=> !x.1)=true by rw[am.nw];intro x d;rw[ct.not_eq_true'];exact eq_false_of_ne_true (am.any_eq_false.mp h1 x d)) ?_;exact hq (a5.IP (by assumption))
 delta methodCall calleeOf methodCallPos;rw[f,h3];rfl
theorem kH:∀{es:am X} {a:am fY},fK c9 G.D.ev C es a=true->a.ah=es.ah:=by
 intro b
 induction b with
 |iv=>
  intro a h;exact ab (am.sn.mp h) rfl
 |d2 x xs c=>
  intro a h;refine iy (eY h) λe r d Z Z h3=>?_;clear h;subst d;exact b5 a5.Fy (c h3)
theorem vC{t k f8:a5}{o:fY}{a:am fY}{b bv:Dx}(e:aC G.D bk A VS P d s (.ok (.bs t k) U) (a8.pa o u))(hs:iN o=true)(h3:(b.endLine==bv.line)=true)(hn:a.ah<20)(f:(Fu bv (tC a u)).any (·.1)=false)
  (y:∀s' P',St G.D P' U s'->At bk P P' d U s.bh s'.bh->qE U t k->∀pl E L,dM G.D bk A VS P' U s' r E L->ch (dd G.D.bZ G.D.w) A (getMethod (.bs (P'.al t k)) (G.D.ev f8) pl) (λc g=>ch (dd G.D.bZ G.D.w) A (callWith bv c.1 c.2 (Fu bv (tC a u)) []) E L g) L s'):
  aC G.D bk A VS P d s r (a8.pa (.Call (.HX o (G.D.ev f8) b) a [] bv) u):=by show aC G.D bk A VS P d s r (attributeBase o (G.D.ev f8) u (a8.pa o u)>>=λh=>kK b.atName>>=λZ=>methodCall o (G.D.ev f8) b bv u h (a.ah+0) (Fu bv (tC a u)) []);rw[eL hs];refine aC.tb e λI s' P' S' i z=>aC.aU ?_;obtain rfl:I=_:=z.1;rw[a5.add_zero,dV f (a5.ew hn av) h3];exact λE L k=>aa (ak (y s' P' S' i z.2 _ E L k))
theorem EX.Ll{t k f8 eo:a5}{fs:am (a5×V)}(g:EX lp Q vs d x (.ok (.bs t k) U))(i:U.ed t k=ap (.qD fs))(j:vE.eh (t,f8)=ap eo)(l:EL lp Q vs U es (.ok ws ay))(m:CA lp Q eo (.bs t k::ws) ay r):EX lp Q vs d (.m x f8 es) r:=λC e h A u P s a=>by
 refine aD λv b=>?_;refine ar (aj h) λp w q=>?_;clear h;subst w;refine ar (aj q) λo z q=>?_;apply b;clear b;refine ab z (ab (cx (ao q)) ?_);replace q:=ai q;haveI z:=l C p.2.1 (ai (ai (ai (ai q))));haveI M:=G.meths a.S.lv t f8 eo j;refine vC (g C o.1 (ao (ai (ai (ai q)))) A u P s a) (ao q) (ao (ai q)) (kH (ai (ai (ai (ai q))))▸ra (ao (ai (ai q)))) (z.1 _ _) λs' P' S' y lv pl E L B=>aD λv b=>?_;obtain⟨K,D,n,be,F,at_, -⟩:=S'.qD i;apply b;clear b;refine cl (method_fn (S'.dW (G.ok S'.lv)) be (plainGet_of (M.mm.LL (G.D.ev f8))).1 (plainGet_of (M.mm.LL (G.D.ev f8))).2 M.find (wn.mp M.fn) ?_ ?_)
 ·show(lookIn _ (dictOf D n)).hC _=_;rw[lookIn_dict,F.bk λa ha=>M.py a (at_ a ha)];rfl
 ·haveI f:=a.on S' y;exact bE (z.1 _ _) (nQ M.j1) (z.2 A u P' s' p.2.2 f) (λus H cS I c J=>(m.go A cS H _ I (f.ac.mr c).ng (eN _ us rfl ⟨b5 a9.bs (c.qE t k lv).2.symm,(c.qE t k lv).1⟩ J)).sim) E L B
theorem iB.under{h:d4}{c:KM}(a:Ac lp A P h Q)(b:c.Iz=[])(d:c.weight=1)(e:c.cUnits=1)(f:c.envs=[]):iB 0 lp (A.under c) P h Q:=by refine aD λp g=>?_;obtain⟨⟨l,i,j⟩,k,m,n,o⟩:=a;apply g;unfold ec.under;rw[b,d,e,f];exact⟨⟨l,i,j⟩,a5.bb (a5.mZ (a5.AC A.Lw 1 (2*Q))) k,a5.bb (a5.mZ (a5.AC A.FD 1 (40*Q))) (a5.bb (a5.kQ (by decide:1<=10) _) m),n,o⟩
theorem iB.make{h:d4}{C:e9}{s8:am a9}(a:Ac lp A P h Q):iB 0 lp (A.under (.eu "type.__call__" ⟨.bs C::s8,[]⟩)) P h Q:=by
 haveI b:(KM.eu "type.__call__" ⟨.bs C::s8,[]⟩).isGuard=false:=by
  show guardIds.b6 "type.__call__" =false;decide+kernel
 exact a.under (by exact ab b rfl) (by exact ab b rfl) rfl rfl
theorem EX.make{t eo:a5}(l:EL lp Q vs d es (.ok ws U))(hi:sr.eh t=ap eo)(m:CA lp Q eo (.bs t (U.gz t)::ws) (U.hM t (.qD [])) (.ok .bk ay)):EX lp Q vs d (.k t es) (.ok (.bs t (U.gz t)) ay):=λC e h A u P s a=>by
 refine ar (aj h) λp y q=>?_;clear h;subst y;haveI z:=l C p.2.1 (ai q);haveI be:=G.H0 a.S.lv t eo hi;refine dY (ao q) a (λI e=>e) (bE (z.1 _ _) (nQ (sv a.S.lv (ao q))) (z.2 A u P s p.2.2 a) λus s1 P1 c n f=>?_);obtain⟨hh,g,B,tk,os⟩:=s1;haveI dW:=c.dW (G.ok c.lv);haveI i:=a.ac.mr n;dsimp only at dW f i;obtain⟨r,j,v⟩:=c.h.alloc (t:=t) (o:=.qD [])
  (λb x e=>d4.e7 _ (d4.e7 _ e)) (a8.d4.Cn (a5.IO _)) (a8.d4.Cn (a5.i3 _)) ⟨KP (G.D.mm t) hh.kq.hN,by heap_get⟩ ⟨_,d4.e7 _ (d4.m8 _ rfl)⟩ λg=>
   ⟨hh.kq.hN,[],0,by refine ab ey ?_;heap_get,d4.e7 _ (d4.m8 _ rfl),HA,by refine ab ey ?_;exact a5.sK (a5.wS _),nofun,rfl⟩
 refine AZ.sim λR k=>B6 (makes_of dW be.makes) (looks_findIn dW be.find) (λy6=>bind_fn dW y6 (wn.mp be.fn)) (.u0 rfl) (m.go (A.under (.eu "type.__call__" ⟨.bs (G.D.mm t)::us,[]⟩)) _ ⟨_,g,B,tk,os⟩ (.bs (hh.kq.hN+1)::us) ⟨r,c.r⟩ (i.mr j).make (eN _ _ rfl v (aA.kx j.q7 f)) _ λI s' P' S' w r'=>?_);clear a r i dW f n c us be z q p s P u C m hi l;obtain rfl:I=.bk:=r';exact⟨rfl,k _ s' P' S' (j.trans w) (v.kx w.q7)⟩
end
section
variable{lp:ct}{Q:a5}{C:Cx}{A:ec}{u:Cg}{vs:am V}{P P':Ph}{d U ay ie:H}{s s':a6}{x y z:X}{v w:V}{r:R V}{b:ct}{es:am X}{ws:am V}
theorem St.eS(S:St G.D P d s){b:e9}(h:s.bh.ck b=bk):P.k0 b=.j2/\G.D.hE.ck b=bk:=by
 haveI key:G.D.hE.ck b=bk:=by
  cases e:G.D.hE.ck b with
  |bk=>rfl
  |ap o=>replace h:=((S.h.tg b o e).1)▸h;exact oP h
 refine⟨?_,key⟩;cases e:P.k0 b with
 |j2=>rfl
 |d9 t k=>refine aN (S.h.min b t k e) λo q=>?_;replace h:=q▸h;exact oP h
 |f5 M=>refine aN (S.h.qL trivial b M e) λo q=>?_;replace h:=q.1▸h;exact oP h
 |DD=>refine aN (S.h.DD.there b e) λo q=>?_;replace h:=q▸h;exact oP h
theorem bT{h:d4}:h.ck h.kq.hN=bk:=a8.d4.Cn (a5.i3 _)
theorem St.uZ(S:St G.D P d s){t:a5}{o:O}{ob:Do}(hf:ob.isFreed=false)
  (hn:∀P' h',(P':Ph).al t (d.gz t)=s.bh.kq.hN->h'.ck s.bh.kq.hN=ap ob->(∀{v I},aF P d s.bh v I->aF P' (d.hM t o) h' v I)->jx G.D P' (d.hM t o) h' t (d.gz t) o) {tk:Tok} {E:a9->a6->Prop} {L:a9->a6->Prop}
  (k:dM G.D bk A VS P d s (.ok (.bs t (d.gz t)) (d.hM t o)) E L):E (.bs s.bh.kq.hN) {s with bh:=s.bh.o4 ob,hO:=tk}:=by haveI a:(s.bh.o4 ob).ck s.bh.kq.hN=ap ob:=d4.m8 _ hf;haveI al:=S.h.alloc (λb x e=>d4.e7 _ e) bT bT ⟨_,a⟩ ⟨_,a⟩ (λg=>hn _ _ ey a g);exact k _ _ _ ⟨al.1,S.r⟩ al.2.1 al.2.2
theorem St.BY(S:St G.D P d s){us:am a9}{ce n:a5}(r:aA P d s.bh ws us){tk:Tok}{E:a9->a6->Prop}{L:a9->a6->Prop}(k:dM G.D bk A VS P d s (.ok (.bs ce (d.gz ce)) (d.hM ce (.dG ws))) E L):
  E (.bs s.bh.kq.hN) {s with bh:=s.bh.o4 (b7 us n),hO:=tk}:=
 S.uZ (o:=.dG ws) rfl (λP' h' a b g=>gZ us n (a.symm▸b) (r.hC g)) k
theorem rX(S:St G.D P d s){us:am a9}{ce:a5}(r:aA P d s.bh ws us)(a:ws.ah<=aQ):aC G.D bk A VS P d s (.ok (.bs ce (d.gz ce)) (d.hM ce (.dG ws))) (newList us):=λE L k=>
 cl (wpAny_newList (S.BY r k) (ab ((r.ah).symm) (a5.bb a av)))
theorem qg(S:St G.D P d s){us:am a9}(r:aA P d s.bh ws us)(a:ws.ah<=aQ):aC G.D bk A VS P d s (.ok (.KS ws) d) (newTuple us):=λE L k=>by
 refine cl (wpAny_newTuple ?_ (ab ((r.ah).symm) (a5.bb a av)));haveI m:=S.h.hA (h':=s.bh.o4 {mm:=.fX "tuple",hy:=.seq us.eb}) (λb x e=>d4.e7 _ e);exact k _ {s with bh:=s.bh.o4 {mm:=.fX "tuple",hy:=.seq us.eb}} P ⟨m.1,S.r⟩ m.2 ⟨_,us,rfl,(S.eS bT).1,⟨_,d4.m8 _ rfl,rfl,0,rfl⟩,aA.kx m.2.q7 r⟩
theorem EX.ls{ce:a5}(b:EL lp Q vs d es (.ok ws U))(hn:ws.ah<=1000):EX lp Q vs d (.ls es) (.ok (.bs ce (U.gz ce)) (U.hM ce (.dG ws))):=λC e h A u P s a=>by
 refine ar (aj h) λp c q=>?_;subst c;exact aC.aU (aC.tb ((b C p.1 (ai q)).2 A u P s p.2 a) λus s' P' S' f r=>rX S' r (a5.bb hn av))
theorem EX.tp(b:EL lp Q vs d es (.ok ws U))(hn:ws.ah<=1000):EX lp Q vs d (.tp es) (.ok (.KS ws) U):=λC e h A u P s a=>by
 refine ar (aj h) λp c q=>?_;subst c;exact aC.aU (aC.tb ((b C p.1 (ai q)).2 A u P s p.2.2 a) λus s' P' S' f r=>qg S' r (a5.bb hn av))
def au(o:x0)(v w:V)(d:H)(r:R V):Prop:=∀A P s I z,Rm A->St G.D P d s->aF P d s.bh v I->aF P d s.bh w z->aC G.D bk A VS P d s r (DU o I z)
def aq(o:FH)(v w:V)(d:H)(b:ct):Prop:=∀A P s I z,Rm A->St G.D P d s->aF P d s.bh v I->aF P d s.bh w z->aC G.D bk A VS P d s (.ok (.gg b) d) (H1 o I z)
theorem EX.bin{o:x0}(b:EX lp Q vs d x (.ok v U))(c:EX lp Q vs U y (.ok w ay))(hb:au o v w ay r):EX lp Q vs d (.b o x y) r:=λC e h A u P s a=>by
 refine ar (aj h) λp f q=>?_;subst f;refine ab (cx (ao q)) ?_;exact aC.tb (b C p.1 (ao (ai q)) A u P s a) λI s' P' S' g r=>aC.tb (aC.ff (c C p.2.2.1 (ai (ai q)) A u P' s' (a.on S' g))) λz i cS j k r'=>aC.aU (aC.zl (hb A cS i I z a.ac.room j (r.kx k.q7) r'))
theorem nO{a:FH}{e:fY}{t:xE a9}(h:cO e=true):markedBehindIn a e t=t:=by cases e<;>first |rfl |exact dP h
theorem gw(e:fY)(es:am fY)(u:Cg):Ka (e::es) u=a8.pa e u::Ka es u:=rfl
theorem k_(u:Cg):Ka [] u=[]:=rfl
theorem Ag{a:FH}{r':fY}(hs:cO r'=true):LB [a] [r'] (Ka [r'] u)=[a8.pa r' u]:=by rw[gw,k_];show [markedBehindIn a r' (a8.pa r' u)]=_;exact ab (nO hs) rfl
theorem Af{c b:FH}{a r':fY}(hs:cO r'=true):LB [c,b] [a,r'] (Ka [a,r'] u)=[a8.pa a u,a8.pa r' u]:=by rw[gw,gw,k_];show a8.pa a u::[markedBehindIn b r' (a8.pa r' u)]=_;exact ab (nO hs) rfl
theorem z6(bv:Dx)(a:a9)(b:FH)(r:xE a9):compareChain bv a [b] [r]=(a8.ff [a] r>>=λc=>kK bv>>=λZ=>a8.zl [a,c] (H1 b a c)):=rfl
theorem Hs(bv:Dx)(a:a9)(b:FH)(r:xE a9):testChain bv a [b] [r]=(a8.ff [a] r>>=λd=>kK bv>>=λZ=>a8.zl [a,d] (H1 b a d)>>=λc=>a8.ff [c] (truthy c)):=rfl
theorem k9:evalOpt bk u=bk:=rfl
theorem qT{e:fY}:evalOpt (ap e) u=ap (a8.pa e u):=rfl
theorem Ad{o:FH}{e:fY}(h:aM c9 G.D.ev C (.mc o x y) e=true):∃l r bv,e=.Compare l [o] [r] bv/\cO r=true/\aM c9 G.D.ev C x l=true/\aM c9 G.D.ev C y r=true:=by refine aD λd a=>ar (aj h) λp e q=>ar (cu (ao q)) λf b q1=>ar (cu (ao (ai q))) λr c q2=>?_;apply a;replace e:=(cx q1)▸c▸b▸e;exact xJ p.1 r p.2.2.2 e (ao q2) (ai (ai q)) (ai q2)
theorem EX.mc{o:FH}(c:EX lp Q vs d x (.ok v U))(f:EX lp Q vs U y (.ok w ay))(hb:aq o v w ay b):EX lp Q vs d (.mc o x y) (.ok (.gg b) ay):=λC e h A u P s a=>by
 refine wb (Ad h) λl r bv g q1 q2 i=>?_;clear h;subst g;show aC G.D bk A VS P d s _ (a8.pa l u>>=λa=>compareChain bv a [o] (LB [o] [r] (Ka [r] u)));refine ab (Ag q1) (aC.tb (c C l q2 A u P s a) λI s' P' S' j k=>?_);rw[z6];exact aC.tb (aC.ff (f C r i A u P' s' (a.on S' j))) λz m cS n p r'=>aC.aU (aC.zl (hb A cS m I z a.ac.room n (k.kx p.q7) r'))
theorem ET.mc{o:FH}(f:EX lp Q vs d x (.ok v U))(g:EX lp Q vs U y (.ok w ay))(hb:aq o v w ay b):ET lp Q vs d (.mc o x y) (.ok b ay):=λC e h A u P s a=>by
 refine wb (Ad h) λl r bv i q1 q2 j=>?_;clear h;subst i;show aC G.D bk A VB P d s _ (a8.pa l u>>=λa=>testChain bv a [o] (LB [o] [r] (Ka [r] u)));refine ab (Ag q1) (aC.tb (f C l q2 A u P s a) λI s' P' S' k m=>?_);rw[Hs];exact aC.tb (aC.ff (g C r j A u P' s' (a.on S' k))) λz n cS p t r'=>aC.aU (aC.tb (aC.zl (hb A cS n I z a.ac.room p (m.kx t.q7) r')) λc D E B F q=>aC.ff (dS B q))
theorem aC.GE{α β:Type}{ad:bS e9}{VR:α->β->Ph->H->d4->Prop}{r:R α}{t:y5->xE β}{vs ws:am a9}(x:aC G.D ad A VR P d s r (t ())):aC G.D ad A VR P d s r (a8.GE vs ws>>=t):=λE L k=>aa (cl (LC (x E L k)))
theorem z5(bv:Dx)(d:a9)(e f:FH)(r g:xE a9):compareChain bv d [e,f] [r,g]=(a8.ff [d] r>>=λa=>kK bv>>=λZ=>a8.ff [d,a] (H1 e d a)>>=λc=>a8.GE [d,a] [c] >>=λZ=>
 a8.ff [c,a] (truthy c)>>=λb=>if b then(a8.ff [a] g>>=λh=>kK bv>>=λZ=>a8.zl [a,h] (H1 f a h))else h8 c):=rfl
theorem Hr(bv:Dx)(d:a9)(e f:FH)(r g:xE a9):testChain bv d [e,f] [r,g]=(a8.ff [d] r>>=λa=>kK bv>>=λZ=>a8.ff [d,a] (H1 e d a)>>=λc=>a8.GE [d,a] [c] >>=λZ=>
 a8.ff [c,a] (truthy c)>>=λb=>if b then(a8.ff [a] g>>=λh=>kK bv>>=λZ=>a8.zl [a,h] (H1 f a h)>>=λc=>a8.ff [c] (truthy c))else h8 false):=rfl
theorem ET.ju{o o2:FH}{i:V}(j:EX lp Q vs d x (.ok v U))(k:EX lp Q vs U y (.ok w ay))(hb:aq o v w ay true)(K:EX lp Q vs ay z (.ok i ie))(L:aq o2 w i ie b):ET lp Q vs d (.ju o o2 x y z) (.ok b ie):=λC e h A u P s a=>by
 refine aD λM l=>ar (aj h) λp f q=>aO (cM (ao q)) λN ob n q1=>aO (cM (ao (ai q))) λm r t q2=>?_;apply l;clear l;replace f:=(cx (ai q1))▸(cx (ao q1))▸t▸n▸f;clear t q1 n ob N M h;subst f;show aC G.D bk A VB P d s _ (a8.pa p.1 u>>=λa=>testChain p.2.2.2 a [o,o2] (LB [o,o2] [m,r] (Ka [m,r] u)));refine ab (Af (ao q2)) (aC.tb (j C p.1 (ai (ai q)) A u P s a) λI s' P' S' B D=>?_);rw[Hr];refine aC.tb (aC.ff (k C m (ao (ai q2)) A u P' s' (a.on S' B))) λE O cS F H r'=>aC.aU (aC.tb (aC.ff (hb A cS O I E a.ac.room F (D.kx H.q7) r')) λc s3 P3 J R g=>aC.GE (aC.tb (aC.ff (dS J g)) λS T W Y Z g=>?_));clear J F D S' I hb k j;obtain rfl:S=true:=g;have X:=R.trans Z;exact aC.tb (aC.ff (K C r (ai (ai q2)) A u W T (a.on Y ((B.trans H).trans X)))) λy s5 P5 S5 X5 ry=>aC.aU (aC.tb (aC.zl (L A P5 s5 E y a.ac.room S5 (r'.kx (X.trans X5).q7) ry)) λc s6 P6 S6 X6 q=>aC.ff (dS S6 q))
theorem EX.ju{o o2:FH}{i:V}(D:EX lp Q vs d x (.ok v U))(E:EX lp Q vs U y (.ok w ay))(hb:aq o v w ay true)(F:EX lp Q vs ay z (.ok i ie))(H:aq o2 w i ie b):EX lp Q vs d (.ju o o2 x y z) (.ok (.gg b) ie):=λC e h A u P s a=>by
 refine aD λJ j=>ar (aj h) λp f q=>aO (cM (ao q)) λK ob k q1=>aO (cM (ao (ai q))) λm r l q2=>?_;apply j;clear j;replace f:=(cx (ai q1))▸(cx (ao q1))▸l▸k▸f;clear l q1 k ob K J h;subst f;show aC G.D bk A VS P d s _ (a8.pa p.1 u>>=λa=>compareChain p.2.2.2 a [o,o2] (LB [o,o2] [m,r] (Ka [m,r] u)));refine ab (Af (ao q2)) (aC.tb (D C p.1 (ai (ai q)) A u P s a) λI s' P' S' n L=>?_);rw[z5];refine aC.tb (aC.ff (E C m (ao (ai q2)) A u P' s' (a.on S' n))) λt M cS N B r'=>aC.aU (aC.tb (aC.ff (hb A cS M I t a.ac.room N (L.kx B.q7) r')) λc s3 P3 O R g=>aC.GE (aC.tb (aC.ff (dS O g)) λS T W Y Z g=>?_));obtain rfl:S=true:=g;have X:=R.trans Z;exact aC.tb (aC.ff (F C r (ai (ai q2)) A u W T (a.on Y ((n.trans B).trans X)))) λy s5 P5 S5 X5 ry=>aC.aU (aC.zl (H A P5 s5 t y a.ac.room S5 (r'.kx (X.trans X5).q7) ry))
theorem EX.and(f:EX lp Q vs d x (.ok (.gg b) U))(g:if b then EX lp Q vs U y r else r=.ok (.gg false) U):EX lp Q vs d (.bo true [x,y]) r:=λC e h A u P s a=>by
 refine ar (aj h) λp n q=>?_;clear h;subst n;refine iy (eY (show fK c9 G.D.ev C [x,y] p.2.1=true from ai q)) λc F i h1 h2 h3=>?_;refine iy (eY h3) λk o w h4 h5 h6=>?_;clear h4 h3 h1;subst w;obtain rfl:o=[]:=am.sn.mp h6;haveI j:=cx (ao q);haveI L:a8.pa (.BoolOp p.1 p.2.1 p.2.2) u=(a8.pa c u>>=λv=>kK p.2.2>>=λZ=>a8.ff [v] (truthy v)>>=λt=>match t with |false=>h8 v |true=>a8.pa k u):=by
  refine ab i (ab j ?_);show(a8.pa c u>>=λv=>kK p.2.2>>=λZ=>a8.ff [v] (truthy v)>>=λt=>_)=_;refine b5 _ (funext λv=>b5 _ (funext λZ=>b5 _ (funext λt=>?_)));clear j h6 h5 h2 i c q a s P A C g f;cases t<;>rfl
 refine ab L (aC.tb (f C c h2 A u P s a) λI s' P' S' B z=>aC.aU (aC.tb (aC.ff (dS S' z)) λt D E l m ht=>?_));clear S' L j h6 h2 i c q p f;obtain rfl:t=b:=ht;cases t with
 |true=>exact g C k h5 A u E D (a.on l (B.trans m))
 |false=>
  exact ab (show r=_ from g) (aC.h8 l (z.kx m.q7))
def bD(v w:V)(d:H)(r:V):Prop:=(∀P s I,St G.D P d s->aF P d s.bh v I->r5 (dd G.D.bZ G.D.w) s.bh (Kv I) false)/\∀A P s I z,Rm A->St G.D P d s->aF P d s.bh v I->aF P d s.bh w z->aC G.D bk A VS P d s (.ok r d) (getItem I z)
theorem mO{i:fY}{o v:a9}(h:(i.b4 !=26)=true):subscripted i false o v=a8.zl [o,v] (getItem o v):=by cases i<;>first |rfl |exact dP h
theorem EX.Kj(j:EX lp Q vs d x (.ok v U))(k:EX lp Q vs U y (.ok w ay)){b:V}(c:bD v w ay b):EX lp Q vs d (.s x y) (.ok b ay):=λC e h A u P s a=>by
 refine ar (aj h) λp l q=>?_;subst l;refine aC.tb (j C p.1 (ao (ai q)) A u P s a) λI s' P' S' m n=>aC.tb (aC.ff (k C p.2.1 (ai (ai q)) A u P' s' (a.on S' m))) λz f cS g o r=>aC.aU ?_;have i:=n.kx o.q7;exact aC.DK (c.1 cS f I g i) (ab (mO (ao q)) (aC.sy (aC.zl (c.2 A cS f I z a.ac.room g i r)) λt E L B q=>aa (cl (J_ (af q)))))
def VO(v:V)(I:a9)(P:Ph)(d:H)(h:d4):Prop:=(v=.i1/\I=.bk)\/aF P d h v I
theorem VO.kx{P P':Ph}{d U:H}{h h':d4}(x:o8 P P' d U h h'){v:V}{I:a9}(r:VO v I P d h):VO v I P' U h':=r.DO id λb=>b.kx x
def EO(lp:ct)(Q:a5)(vs:am V)(d:H)(x:X)(v:V)(U:H):Prop:=∀C (e:bS fY),(match e with |ap l=>aM c9 G.D.ev C x l |bk=>x.b4==1)=true->∀A u P s,o9 lp Q C A u vs P d s->aC G.D bk A VO P d s (.ok v U) (valueOrNone (evalOpt e u))
theorem EO.bk:EO lp Q vs d .omit .i1 d:=λC e h A u P s a=>by
 cases e with
 |bk=>exact ab k9 (aC.h8 a.S (.u0 ⟨rfl,rfl⟩))
 |ap l=>exact dP h
theorem EO.ap(c:EX lp Q vs d x (.ok v U))(hn:(x.b4==1)=false):EO lp Q vs d x v U:=λC e h A u P s a=>by
 cases e with
 |bk=>replace h:=hn▸h;exact dP h
 |ap l=>
  exact ab qT (λE L k=>c C l h A u P s a E L λb s' P' S X r=>k b s' P' S X (.wl r))
def Ms(lo hi:V)(w:a9)(P:Ph)(d:H)(h:d4):Prop:=∃a l r,w=.bs a/\P.k0 a=.j2/\h.ck a=ap {mm:=.fX "slice",hy:=.j3 #[l,r,.bk]}/\VO lo l P d h/\VO hi r P d h
theorem rZ{lo hi:X}{l h:bS fY}{p:Dx}(g:EO lp Q vs d lo v U)(i:EO lp Q vs U hi w ay)(h1:(match l with |ap l=>aM c9 G.D.ev C lo l |bk=>lo.b4==1)=true)(h2:(match h with |ap l=>aM c9 G.D.ev C hi l |bk=>hi.b4==1)=true)(a:o9 lp Q C A u vs P d s):
  aC G.D bk A (λ(_:y5)=>Ms v w) P d s (.ok () ay) (a8.pa (.Slice l h bk p) u):=by refine aC.tb (g C l h1 A u P s a) λI s' P' S' j k=>aC.tb (aC.ff (i C h h2 A u P' s' (a.on S' j))) λz c cS f n o=>ab k9 (λE L q=>aa (ak (af (cl (wf ?_)))));haveI m:=f.h.hA (h':=c.bh.o4 {mm:=.fX "slice",hy:=.j3 #[I,z,.bk]}) (λb x e=>d4.e7 _ e);exact q _ {c with bh:=c.bh.o4 {mm:=.fX "slice",hy:=.j3 #[I,z,.bk]}} cS ⟨m.1,f.r⟩ m.2 ⟨_,I,z,rfl,(f.eS bT).1,d4.m8 _ rfl,(k.kx n.q7).kx m.2.q7,o.kx m.2.q7⟩
def fL(v lo hi:V)(d:H)(r:R V):Prop:=(∀P s I,St G.D P d s->aF P d s.bh v I->r5 (dd G.D.bZ G.D.w) s.bh (Kv I) false)/\∀A P s I z,Rm A->St G.D P d s->aF P d s.bh v I->Ms lo hi z P d s.bh->aC G.D bk A VS P d s r (getItem I z)
theorem EX.sl{lo hi:X}{a b:V}(l:EX lp Q vs d x (.ok v U))(m:EO lp Q vs U lo a ay)(hh:EO lp Q vs ay hi b ie)(f:fL v a b ie r):EX lp Q vs d (.sl x lo hi) r:=λC e h A u P s c=>by
 refine ar (aj h) λp n q=>?_;subst n;refine ar (aj q) λk o q=>ab o ?_;refine aC.tb (l C p.1 (ao q) A u P s c) λI s' P' S' t w=>aC.tb (aC.ff (rZ m hh (ao (ai q)) (ai (ai q)) (c.on S' t))) λz g cS i y B=>aC.aU ?_;have j:=w.kx y.q7;apply aC.DK (f.1 cS g I i j);exact aC.sy (aC.zl (f.2 A cS g I z c.ac.room i j B)) λD E L F q=>aa (cl (J_ (af q)))
end
end Internal
end
section
namespace Internal
namespace BA
theorem rE:PlainAttrs "bytearray" :=
 ⟨(aR ("bytearray.__getattribute__") (by rw[f9,ek];kernel_rfl) (by decide+kernel)),by rw[f9,ek];kernel_rfl⟩
theorem It:Manifest.owners.eh (z8.ofList ['y','a','r','r','a','e','t','y','b'].E5)=ap Manifest.sig_bytearray:=by kernel_rfl
theorem ye:Slot "bytearray" "__len__" "bytearray.__len__" :=
 .of (It:= "bytearray") (n:= "__len__") (by rw[f9,ek];kernel_rfl) (by decide+kernel) (by decide+kernel) (by decide+kernel)
  (by first |exact .u0 (by decide+kernel) |exact .wl (by decide+kernel)) (by rw[pq];kernel_rfl)
theorem entry_len:Cm table "bytearray.__len__" =ap l7.«bytearray.__len__» :=AT (by kernel_rfl)
theorem AV(a:a9):D0 "bytearray.__len__" ⟨[a],[]⟩:=by unfold D0;rw[zz (id:= "bytearray.__len__") (n:=['_','_','n','e','l','_','_']) (o:=['y','a','r','r','a','e','t','y','b']) (by kernel_rfl) It];kernel_rfl
theorem g_:Slot "bytearray" "__getitem__" "bytearray.__getitem__" :=
 .of (It:= "bytearray") (n:= "__getitem__") (by rw[f9,ek];kernel_rfl) (by decide+kernel) (by decide+kernel) (by decide+kernel)
  (by first |exact .u0 (by decide+kernel) |exact .wl (by decide+kernel)) (by rw[pq];kernel_rfl)
theorem jL:Cm table "bytearray.__getitem__" =ap l7.«bytearray.__getitem__» :=AT (by kernel_rfl)
theorem lA(a b:a9):D0 "bytearray.__getitem__" ⟨[a,b],[]⟩:=by unfold D0;rw[zz (id:= "bytearray.__getitem__") (n:=['_','_','m','e','t','i','t','e','g','_','_']) (o:=['y','a','r','r','a','e','t','y','b']) (by kernel_rfl) It];kernel_rfl
theorem dz:Slot "bytearray" "__setitem__" "bytearray.__setitem__" :=
 .of (It:= "bytearray") (n:= "__setitem__") (by rw[f9,ek];kernel_rfl) (by decide+kernel) (by decide+kernel) (by decide+kernel)
  (by first |exact .u0 (by decide+kernel) |exact .wl (by decide+kernel)) (by rw[pq];kernel_rfl)
theorem jK:Cm table "bytearray.__setitem__" =ap l7.«bytearray.__setitem__» :=AT (by kernel_rfl)
theorem lz(a b c:a9):D0 "bytearray.__setitem__" ⟨[a,b,c],[]⟩:=by unfold D0;rw[zz (id:= "bytearray.__setitem__") (n:=['_','_','m','e','t','i','t','e','s','_','_']) (o:=['y','a','r','r','a','e','t','y','b']) (by kernel_rfl) It];kernel_rfl
theorem iH:Slot "bytearray" "extend" "bytearray.extend" :=
 .of (It:= "bytearray") (n:= "extend") (by rw[f9,ek];kernel_rfl) (by decide+kernel) (by decide+kernel) (by decide+kernel)
  (by first |exact .u0 (by decide+kernel) |exact .wl (by decide+kernel)) (by rw[pq];kernel_rfl)
theorem mq:typeOf (.eu "bytearray.extend")=h8 (.fX "method_descriptor"):=by show builtinType _=_;refine ab builtinType_eq_fast ?_;kernel_rfl
theorem qU:Cm table "bytearray.extend" =ap l7.«bytearray.extend» :=AT (by kernel_rfl)
theorem tf(a b:a9):D0 "bytearray.extend" ⟨[a,b],[]⟩:=by unfold D0;rw[zz (id:= "bytearray.extend") (n:=['d','n','e','t','x','e']) (o:=['y','a','r','r','a','e','t','y','b']) (by kernel_rfl) It];kernel_rfl
theorem ji:Slot "bytearray" "__init__" "bytearray.__init__" :=
 .of (It:= "bytearray") (n:= "__init__") (by rw[f9,ek];kernel_rfl) (by decide+kernel) (by decide+kernel) (by decide+kernel)
  (by first |exact .u0 (by decide+kernel) |exact .wl (by decide+kernel)) (by rw[pq];kernel_rfl)
theorem uz:Cm table "bytearray.__init__" =ap l7.«bytearray.__init__» :=AT (by kernel_rfl)
theorem uX(a:a9):D0 "bytearray.__init__" ⟨[a],[]⟩:=by unfold D0;rw[zz (id:= "bytearray.__init__") (n:=['_','_','t','i','n','i','_','_']) (o:=['y','a','r','r','a','e','t','y','b']) (by kernel_rfl) It];kernel_rfl
theorem uW(a b:a9):D0 "bytearray.__init__" ⟨[a,b],[]⟩:=by unfold D0;rw[zz (id:= "bytearray.__init__") (n:=['_','_','t','i','n','i','_','_']) (o:=['y','a','r','r','a','e','t','y','b']) (by kernel_rfl) It];kernel_rfl
theorem mro:mroOf (.fX "bytearray")=h8 [.fX "bytearray",.fX "object"]:=by rw[mroOf_type];kernel_rfl
theorem t_:r4 (.fX "bytearray") "__new__" =h8 (ap (.eu "bytearray.__new__")):=by rw[f9,ek];kernel_rfl
theorem called:TypeCalled "bytearray" "bytearray.__new__" "bytearray.__init__" :=
 ⟨by decide+kernel,by decide+kernel,(xK _ _ mro),madeBy_type mro t_ (by decide+kernel),by decide+kernel,by rw[pq];kernel_rfl,ji⟩
theorem we:checkTypeCall "bytearray" ⟨[],[]⟩=h8 ():=by kernel_rfl
theorem wd(a:a9):checkTypeCall "bytearray" ⟨[a],[]⟩=h8 ():=by kernel_rfl
theorem yR:p3 "bytearray.__new__" ⟨[.fX "bytearray"],[]⟩=h8 ():=by kernel_rfl
theorem yQ(a:a9):p3 "bytearray.__new__" ⟨[.fX "bytearray",a],[]⟩=h8 ():=by kernel_rfl
theorem wX:Cm table "bytearray.__new__" =ap l7.«list.__new__» :=
 entryFor_alias (id':= "list.__new__") (by rw[Ia];kernel_rfl) (by first |rfl |decide+kernel) (by decide+kernel) (by rw[Ia];kernel_rfl)
theorem pe:plainId "bytearray.__new__" =true:=by decide+kernel
theorem sub_self:K3 (.fX "bytearray") (.fX "bytearray")=h8 true:=by rw[pq];kernel_rfl
end BA
end Internal
end
section
namespace Tactic
open PySem.Builtin Builtin.Bytes
abbrev cE(b:am cy):Do:={mm:=.fX "bytearray",hy:=.bytearray b.eb 0}
section
variable{M:z3}{A:ec}{L:a9->a6->Prop}{s:a6}{a:e9}{b:am cy}
theorem ty(ha:s.bh.ck a=ap (cE b)):s.Fv (.bs a) "bytearray" :=a4.aR _ ha rfl
theorem cN{E:rv cy->a6->Prop}(ha:s.bh.ck a=ap (cE b))(h:E b.eb s):a8.ch M A (y3.payload (.bs a)) E L s:=by exact a7 (a7 (wpAny_load ha (cp (cp h))))
theorem e_{f:rv cy->rv cy}{E:y5->a6->Prop}(ha:s.bh.ck a=ap (cE b))(hs:(f b.eb).hN<=F1)
  (h:∀h',h'.ck a=ap (cE (f b.eb).q6)->d4.nT a s.bh h'->E () {s with bh:=h'}):a8.ch M A (y3.write (.bs a) f) E L s:=by
 refine a7 (wpAny_load ha ?_);haveI e:∀o:Do,o=cE b->Do.mapBytearray f o=cE (f b.eb).q6:=λo e=>by exact a4.ab e rfl
 haveI g:(s.bh.G0 a (Do.mapBytearray f)).ck a=ap (cE (f b.eb).q6):=by
  refine((d4.mv _ ha (by exact a4.ab (e _ rfl) rfl))).trans ?_;exact a4.ab (e _ rfl) rfl
 refine a7 (wpAny_update ha (IC g ?_ (h _ g (d4.nT.G0 ..))));exact(a4.ab (dx (by simpa using hs)) rfl:(if(f b.eb).q6.eb.hN>F1 then ap "bytearray:memory" else bk)=bk)
theorem sub_int{i:b0}{t:Tok}{E:bS b0->a6->Prop}(hf:y3.fitsIndex i=true)(h:E (ap i) s):a8.ch M A (y3.subscript? (.bn i t)) E L s:=by refine a7 (f3 (LD s i t) F.LE.eh ((?_:ch M A (if(!y3.fitsIndex i)=true then _ else h8 (ap i)) _ L s)));rw[hf];exact cp h
theorem AH{i:b0}{t:Tok}{E:cy->a6->Prop}(h0:0<=i)(h1:i<256)(h:E i.fo.toUInt8 s):a8.ch M A (y3.byteValue (.bn i t)) E L s:=by refine a7 (gu rfl ?_);rw[dx (by simp;exact And.intro (by assumption) (by assumption))];exact cp h
theorem parts{sl:e9}{l I:a9}{lo hi:bS b0}{E:a9×a9×a9->a6->Prop}(hs:s.bh.K5 sl l I .bk)(c:IsPart l lo)(d:IsPart I hi)(h:E (rawPart lo,rawPart hi,.bk) s):a8.ch M A (y3.sliceParts (.bs sl)) E L s:=by
 refine a4.lI hs λo a f hd=>?_;haveI part:∀{v:a9} {k:bS b0} {E:a9->a6->Prop},IsPart v k->E (rawPart k) s->a8.ch M A (do
   if v==.bk then return .bk
   if(←HL v "__index__").H_ then
    rule "bytes.slice.part-no-index";raiseError "TypeError" "slice indices must be integers or None or have an __index__ method"
   return wv (←asIndex v)) E L s:=λe b=>by
  cases e with
  |bk=>exact cp b
  |bn i t=>
   refine a4.ab (dx ct.wT) ?_;refine a7 (f3 (LD s i t) F.LE.eh ?_);exact a7 (gu rfl (cp b))
 refine a7 (ul a hd rfl ?_);refine a7 (part .bk ?_);refine a4.ab (dx ct.wT) ?_;refine a7 (ul a hd rfl (a7 (part c ?_)));exact a7 (ul a hd rfl (a7 (part d (cp h))))
end
section
variable{bZ:mS}{w:tq}{A:ec}{L:a9->a6->Prop}{s:a6}{a:e9}{b:am cy}
theorem Fo{E:a9->a6->Prop}(ha:s.bh.ck a=ap (cE b))(c:b.ah<=1000000)(h:∀t k,E (.bn b.ah t) {s with hO:=k}):a8.ch (dd bZ w) A (ng (.eu "len") [.bs a]) E L s:=by refine call_len_meets (S:=λA R s=>s.bh.ck a=ap (cE b)/\R (.ok (.ret (.bn b.ah s.hO))) {s with hO:=s.hO+1}) (ty ha) a4.BA.ye a4.BA.entry_len (a4.BA.AV _) ?_ (b0.to.ow (b0.dv _)) (b0.Km.ow (b0.hB.ow (a5.fp c a4.av))) (λd q=>⟨ha,q⟩) (h _ _);refine .of_wp λbZ w A R s hS=>?_;refine(a7 (cN hS.1 ?_):ch _ _ (y3.payload (.bs a)>>=λr=>_) _ _ s);exact a7 (wpAny_mkInt (cp (a4.aR _ rfl (by simpa using hS.2))))
theorem yi{n:b0}{ER:a5}(h0:0<=n)(h:n.fo<ER):K6 n ER=ap n.fo:=by
 unfold K6;apply Eq.trans (b:=if(decide (0<=n)&&decide (n<ER))=true then ap n.fo else bk)
 ·rw[dx (b0.to.ow h0)]
 ·rw[et];rw[hq h0,hq ((b0.toNat_lt h0).mp h)];rfl
theorem fits{i:b0}(h0:0<=i)(h:i<4611686018427387904):y3.fitsIndex i=true:=by show(decide (-2^63<=i)&&decide (i<2^63))=true;rw[hq (b0.bb (by decide) h0),hq (b0.uo h (by decide))];rfl
theorem FF{i:b0}{I:Tok}{c:cy}{E:a9->a6->Prop}(ha:s.bh.ck a=ap (cE b))(h0:0<=i)(h1:i<4611686018427387904)(d:b[i.fo]?=ap c)(h:∀t k,E (.bn c.fo t) {s with hO:=k}):
  a8.ch (dd bZ w) A (getItem (.bs a) (.bn i I)) E L s:=by
 refine getItem_meets (S:=λA R s=>s.bh.ck a=ap (cE b)/\∀t k,R (.ok (.ret (.bn c.fo t))) {s with hO:=k}) (ty ha) (by decide) a4.BA.g_ a4.BA.jL (a4.BA.lA _ _) ?_ ⟨ha,h⟩;refine .of_wp λbZ w A R s hS=>(?_:ch _ _ (y3.subscript? (.bn i I)>>=λr=>_) _ _ s);refine a7 (sub_int (fits h0 h1) (a7 (cN hS.1 ?_)));haveI e:(K6 i b.eb.hN).tb (b.eb[·]?)=ap c:=by
  refine(yi h0 (by simpa using((am.hv.mp d).1)))▸?_
  simpa using d
 exact e▸a7 (wpAny_mkInt (cp (a4.aR _ rfl (hS.2 _ _))))
theorem vP{α:Type}(b:am α)(lo hi:a5):(b.zt (min lo b.ah)).m0 (min hi b.ah - min lo b.ah)=(b.m0 hi).zt lo:=by
 refine a4.ab am.drop_take ?_;rcases a5.le_total lo b.ah with h |h
 ·refine a4.ab (a5.ux h) ?_;rcases a5.le_total hi b.ah with h2 |h2
  ·exact a4.ab (a5.ux h2) rfl
  ·exact a4.ab (a5.min_eq_right h2) (a4.ab (am.na (by simp)) (a4.ab (am.na (by rw[am.Kc];exact a5.sub_le_sub_right h2 lo)) rfl))
 ·refine a4.ab (a5.min_eq_right h) (a4.ab (am.drop_eq_nil_of_le (a5.i3 _)) (a4.ab (am.drop_eq_nil_of_le h) ?_));simp
abbrev cP(x:bS a5):bS b0:=x.hC b0.kP
theorem bounds(lo hi:bS a5)(n:a5):sliceBounds (cP lo) (cP hi) bk n=(((min (lo.ww 0) n:a5):b0),((min (hi.ww n) n:a5):b0),1):=by rw[sliceBounds_plain];cases lo<;>cases hi<;>simp[cP,clipAt_nat]
theorem zY(b:am cy)(lo hi:a5):y3.sliced b.eb ((min lo b.ah:a5):b0) ((min hi b.ah:a5):b0) 1=((b.m0 hi).zt lo).eb:=by unfold y3.sliced;rw[sliceRange_one,pick_run,vP]
theorem yf{sl:e9}{l I:a9}{lo hi:bS a5}{E:a9->a6->Prop}(ha:s.bh.ck a=ap (cE b))(d:b.ah<=16777216)(hs:s.bh.K5 sl l I .bk)(f:IsPart l (cP lo))(g:IsPart I (cP hi))
  (h:E (.bs s.bh.kq.hN) {s with bh:=s.bh.o4 (cE ((b.m0 (hi.ww b.ah)).zt (lo.ww 0)))}):a8.ch (dd bZ w) A (getItem (.bs a) (.bs sl)) E L s:=by
 refine getItem_meets (S:=λA R s=>s.bh.ck a=ap (cE b)/\s.bh.K5 sl l I .bk/\R (.ok (.ret (.bs s.bh.kq.hN))) {s with bh:=s.bh.o4 (cE ((b.m0 (hi.ww b.ah)).zt (lo.ww 0)))}) (ty ha) (by decide) a4.BA.g_ a4.BA.jL (a4.BA.lA _ _) ?_ (a4.ix ha hs h);refine .of_wp λbZ w A R s hS=>?_;haveI ha:=hS.1;haveI hs:=hS.2.1;haveI h:=hS.2.2;haveI i:=hs;refine a4.lI hs λo j k hd=>?_;haveI c:s.Fv (.bs sl) "slice" :=a4.aR o j k;refine(a7 ?_:ch _ _ (y3.subscript? (.bs sl)>>=λr=>_) _ _ s);refine a7 (f3 c slice_no_index (cp (a7 (wpAny_typeOf c ?_))));rw[dx (by decide)];refine a7 (parts i f g (a7 (cN ha ?_)));refine a7 (gu (sliceIndices_raw _ _ bk _ (λe=>a4.dE e)) ?_);refine a4.ab ((show b.eb.hN=b.ah by simp)) ?_;rw[bounds];dsimp only;rw[zY];apply a7;exact wf (cp (a4.aR _ rfl h)) (by
  refine(?_:((b.m0 (hi.ww b.ah)).zt (lo.ww 0)).eb.hN<=F1);rw[am.lb,am.Kc,am.w1,ut];exact a5.bb (a5.sub_le _ _) (a5.bb (a5.min_le_right _ _) d))
theorem rV{sl:e9}{l I:a9}{lo hi:bS a5}{t:Tok}{E:a9->a6->Prop}(a:b.ah<=16777216)(hs:s.bh.K5 sl l I .bk)(c:IsPart l (cP lo))(d:IsPart I (cP hi))
  (h:∀t k,E (.d3 ((b.m0 (hi.ww b.ah)).zt (lo.ww 0)).eb t) {s with hO:=k}):a8.ch (dd bZ w) A (getItem (.d3 b.eb t) (.bs sl)) E L s:=by
 have e:KBy.picked b.eb (cP lo) (cP hi)=((b.m0 (hi.ww b.ah)).zt (lo.ww 0)).eb:=by
  unfold KBy.picked;rw[show b.eb.hN=b.ah by simp,bounds];exact zY _ _ _
 refine getItem_meets (uj _ _ _) (by decide) FB.slot_bytes_getitem FB.entry_bytes_getitem (FB.args_bytes_getitem_2 _ _) (KBc.meets_slice2 b.eb t _ c d) ⟨hs,?_,λt' k=>?_⟩
 ·rw[e];rw[am.lb,am.Kc,am.w1,ut];exact a5.bb (a5.sub_le _ _) (a5.bb (a5.min_le_right _ _) a)
 ·rw[e];exact h t' k
theorem kI{o i v:a9}{T id:z8}{E:y5->a6->Prop}(a:s.Fv o T)(hn:seqItemTypes.b6 T=false)(oa:Slot T "__setitem__" id)
  (b:a8.ch (dd bZ w) A (ng (.eu id) [o,i,v]) (λZ s'=>E () s') L s):a8.ch (dd bZ w) A (setItem o i v) E L s:=by refine IR (a7 (wpAny_sequenceKey a hn ?_));exact a7 (A7 a oa (wpAny_mono b (λv s' h'=>cp h') λZ Z e=>e))
abbrev nB{i c:b0}{I t:Tok}{E:y5->a6->Prop}:Prop:=∀(ha:s.bh.ck a=ap (cE b)) (h0:0<=i) (h1:i<4611686018427387904) (hi:i.fo<b.ah) (d:b.ah<=1000000) (c0:0<=c) (c1:c<256) (h:∀h',h'.ck a=ap (cE (b.fC i.fo c.fo.toUInt8))->d4.nT a s.bh h'->E () {s with bh:=h'}),a8.ch (dd bZ w) A (setItem (.bs a) (.bn i I) (.bn c t)) E L s
theorem EW:∀{bZ w A L s a b i c I t E},@nB bZ w A L s a b i c I t E:=by
 refine λ{bZ w A L s a b i c I t E}=>a4.cK (q:=a4.ve @nB) ((?_:∀bZ w A L s a b i c I t E,@nB bZ w A L s a b i c I t E) _ _ _ _ _ _ _ _ _ _ _ _) (bZ,w,A,L,s,a,b,i,c,I,t,E);intro bZ w A L s a b i c I t E ha h0 h1 hi d c0 c1 h;refine kI (ty ha) (by decide) a4.BA.dz (call_meets (S:=λA R s=>s.bh.ck a=ap (cE b)/\∀h',h'.ck a=ap (cE (b.fC i.fo c.fo.toUInt8))->d4.nT a s.bh h'->R (.ok (.ret .bk)) {s with bh:=h'}) a4.BA.dz (ty ha) a4.BA.jK (a4.BA.lz _ _ _) ?_ ⟨ha,h⟩);refine .of_wp λbZ w A R s hS=>?_;haveI ha:=hS.1;haveI h:=hS.2;refine a7 (sub_int (fits h0 h1) ?_);refine a7 (AH c0 c1 (a7 (cN ha ?_)));refine(yi h0 (by simpa using hi))▸?_;have:F1=16777216:=ut;refine a7 (e_ ha (by simp;exact a5.bb (by assumption) a4.av) λh' g hs=>?_);haveI e:(b.eb.Da i.fo c.fo.toUInt8).q6=b.fC i.fo c.fo.toUInt8:=by simp
 replace g:=e▸g;exact cp (a4.aR _ rfl (h h' g hs))
end
end Tactic
end
section
open PySem.SeqAt
namespace Internal
open Tactic (cP)
section
variable{P:Ph}{d:H}{s:a6}{h:d4}{v w:V}{x y:b0}{t k:a5}{l m:am V}{b c:am cy}{ce:a5}
theorem St.at(S:St G.D P d s){tk:Tok}{E:a9->a6->Prop}{L:a9->a6->Prop}{I:a9}{A:ec}(r:aF P d s.bh v I)(k:dM G.D bk A VS P d s (.ok v d) E L):E I {s with hO:=tk}:=k _ _ P (S.tok tk) .hJ r
theorem St.dG(S:St G.D P d s)(a:d.ed t k=ap (.dG l)):∃us n,s.bh.ck (P.al t k)=ap (b7 us n)/\aA P d s.bh l us:=(S.h.ed _ _ _ a).1
theorem St.aB(S:St G.D P d s)(a:d.ed t k=ap (.aB b)):s.bh.ck (P.al t k)=ap (AO b):=(S.h.ed _ _ _ a).1
theorem St.Lf(S:St G.D P d s){tk:Tok}{E:a9->a6->Prop}{L:a9->a6->Prop}{A:ec}(k:dM G.D bk A VS P d s (.ok (.bs ce (d.gz ce)) (d.hM ce (.aB b))) E L):
  E (.bs s.bh.kq.hN) {s with bh:=s.bh.o4 (AO b),hO:=tk}:=S.uZ (o:=.aB b) rfl (λP' h' a c g=>show h'.ck (P'.al _ _)=_ from a.symm▸c) k
theorem binI{o:x0}{z:b0}(h:∀A P s t I,St G.D P d s->aC G.D bk A VS P d s (.ok (.bn z) d) (DU o (.bn x t) (.bn y I))):au o (.bn x) (.bn y) d (.ok (.bn z) d):=λA P s I z f S a b=>by
 obtain⟨c,rfl⟩:=a;obtain⟨e,rfl⟩:=b;exact h A P s c e S
theorem au.add:au .s0 (.bn x) (.bn y) d (.ok (.bn (x+y)) d):=binI λA P s t I S=>Bz S
theorem au.Kj:au .Sub (.bn x) (.bn y) d (.ok (.bn (x - y)) d):=binI λA P s t I S=>Bt S
theorem au.mul(q:aP x):au .H3 (.bn x) (.bn y) d (.ok (.bn (x*y)) d):=binI λA P s t I S=>Bw S q
theorem au.fdiv(q:0<y)(a:y<1000000000):au .zn (.bn x) (.bn y) d (.ok (.bn (x/y)) d):=binI λA P s t I S=>yh S q a
theorem au.mod(q:0<y):au .Mod (.bn x) (.bn y) d (.ok (.bn (x % y)) d):=binI λA P s t I S=>Bx S q
theorem au.shl(q:aP x)(q1:0<=y)(q2:y<=64):au .LShift (.bn x) (.bn y) d (.ok (.bn (x*2^y.fo)) d):=binI λA P s t I S=>Bv S q q1 q2
theorem au.shr(q:0<=y):au .RShift (.bn x) (.bn y) d (.ok (.bn (x/2^y.fo)) d):=binI λA P s t I S=>Bu S q
theorem au.land(q:0<=x)(a:0<=y):au .GZ (.bn x) (.bn y) d (.ok (.bn (b0.kP (x.fo&&&y.fo))) d):=binI λA P s t I S=>yg S q a
theorem au.lor(q:0<=x)(a:0<=y):au .BitOr (.bn x) (.bn y) d (.ok (.bn (b0.kP (x.fo |||y.fo))) d):=binI λA P s t I S=>By S q a
theorem au.d3(q:b.ah+c.ah<=aQ):au .s0 (.d3 b) (.d3 c) d (.ok (.d3 (b++c)) d):=λA P s I z f S a e E L k=>by
 obtain⟨g,rfl⟩:=a;obtain⟨h,rfl⟩:=e;exact cl (KBy.add_bytes (by simp only[am.lb];exact a5.bb (by assumption) av) λt' tk=>S.at (v:=.d3 (b++c)) ⟨t',by rw[am.append_toArray]⟩ k)
theorem au.dG{t' k':a5}(h1:d.ed t k=ap (.dG l))(h2:d.ed t' k'=ap (.dG m))(q:l.ah+m.ah<=aQ):au .s0 (.bs t k) (.bs t' k') d (.ok (.bs ce (d.gz ce)) (d.hM ce (.dG (l++m)))):=λA P s I z g S a b E L c=>by
 obtain rfl:I=_:=a.1;obtain rfl:z=_:=b.1;refine aO (S.dG h1) λus h e q1=>aO (S.dG h2) λws i f q2=>cl (a8.P.add_list e f ?_ ?_)
 ·have:=S.BY (n:=0) (tk:=s.hO) (aA.append q2 q1) c;rw[am.append_toArray];exact this
 ·rw[am.lb,am.lb,←q1.ah,←q2.ah];exact a5.bb q av
theorem BF(v:a9):∀(n:a5) (Iq:rv a9),(am.f7 n #[v]).foldl (λx1 a=>x1++a) Iq=Iq++(am.f7 n v).eb:=by
 intro b
 induction b with
 |zero=>
  exact λIq=>(rv.append_empty).symm
 |Fy n c=>
  intro Iq;rw[am.replicate_succ,am.foldl_cons,c,am.replicate_succ];apply rv.toList_inj.mp;simp only[rv.toList_append,am.sN,am.singleton_append]
theorem aA.f7{I:a9}(r:aF P d h v I):∀n:a5,aA P d h (am.f7 n v) (am.f7 n I):=by
 intro a
 induction a with
 |zero=>
  fail"c"
 |Fy n b=>
  exact eN _ _ rfl r (b)
theorem xI{A:ec}{bZ:mS}{w:tq}{L:a9->a6->Prop}{l:e9}{v:a9}{k:a5}{x:b0}{I:Tok}{E:a9->a6->Prop}(a:s.bh.ck l=ap {mm:=.fX "list",hy:=.seq #[v] k})(h0:0<=x)(h1:x<=1000000)
  (h:E (.bs s.bh.kq.hN) {s with bh:=s.bh.o4 {mm:=.fX "list",hy:=.seq (am.f7 x.fo v).eb}}):a8.ch (dd bZ w) A (DU .H3 (.bs l) (.bn x I)) E L s:=by
 refine wpAny_binaryOp_repeat_ref (by decide) (aR _ a rfl) (λs'=>LD s' x I) noFill_list_mul F.fills_int_mul F.slot_int_rmul repeat_list F.LE.eh
  (call_meets F.slot_int_rmul (LD s x I) F.entry_int_rmul (F.args_int_rmul_2 _ _) (int___rmul___int_list x I l #[v] k)
   ⟨a,rfl,(aR _ a rfl),call_meets F.slot_list_mul (aR _ a rfl) F.entry_list_mul (F.args_list_mul_2 _ _)
    (AutoListH.list___mul___list_int_3 l #[v] k x I (by show¬(!(decide (-9223372036854775808<=x)&&decide (x<9223372036854775808)))=true;rw[hq (b0.bb (by decide) h0),hq (b0.fp h1 (by decide))];exact ct.wT) (a5.to.ow (a5.bb (a5.mZ (a5.one_mul _)) (a5.bb (b0.toNat_le.ow h1) av))) (λz=>kk (ra z) (a5.to.ow (a5.bb (a5.mZ (a5.one_mul _)) (a5.bb (b0.toNat_le.ow h1) av))))) ⟨a,?_⟩⟩)
 haveI e:am.foldl (λx1 b=>x1++b) #[] (am.f7 (if(#[v]:rv a9).sw=true then 0 else x.fo) #[v])=(am.f7 x.fo v).eb:=by
  rw[BF];exact rv.empty_append
 exact ab e h
theorem au.rep{n:a5}(h1:d.ed t k=ap (.dG [v]))(q:n<=aQ):au .H3 (.bs t k) (.bn n) d (.ok (.bs ce (d.gz ce)) (d.hM ce (.dG (am.f7 n v)))):=λA P s I z g S a b E L c=>by
 obtain rfl:I=_:=a.1;refine aD λh e=>?_;obtain⟨i,rfl⟩:=b;refine aO (S.dG h1) λus j f q1=>?_;obtain⟨I,_,rfl,q1,rfl⟩:=q1;apply e;exact cl (xI f (b0.dv n) (b0.sp.ow q) (S.BY (aA.f7 q1 n) c))
end
end Internal
end
section
open PySem.SeqAt
namespace Internal
section
variable{κ lw:Type} [D6 κ] [D6 lw]
def bY:am (κ×V)->κ->bS V
 | [],_=>bk
 |p::r,k=>if p.1=k then ap p.2 else bY r k
def ee:am (κ×V)->κ->V->am (κ×V)
 | [],k,v=> [(k,v)]
 |p::r,k,v=>if p.1=k then(p.1,v)::r else p::ee r k v
def jv:am (κ×V)->κ->am (κ×V)
 | [],_=> []
 |p::r,k=>if p.1=k then r else p::jv r k
theorem b9{p:κ×V}{r:am (κ×V)}{k:κ}:bY (p::r) k=if p.1=k then ap p.2 else bY r k:=rfl
theorem gS{p:κ×V}{r:am (κ×V)}{k:κ}{v:V}:ee (p::r) k v=if p.1=k then(p.1,v)::r else p::ee r k v:=rfl
theorem gT{p:κ×V}{r:am (κ×V)}{k:κ}:jv (p::r) k=if p.1=k then r else p::jv r k:=rfl
variable{P P':Ph}{d U:H}{h h':d4}{f:κ->lw}{ok:κ->Prop}
omit [DecidableEq κ] [DecidableEq lw]in
theorem jf.ER:∀{l:am (κ×V)} {a:am (lw×a9)},jf P d h f ok l a->l.ah=a.ah:=by
 intro b
 induction b with
 |iv=>
  intro Z e;exact e▸rfl
 |d2 _ _ c=>
  intro Z r;refine iy r λI s g Z Z i=>?_;clear r;subst g;exact b5 a5.Fy (c i)
theorem qa{i k:lw}{I:a9}{r:am (lw×a9)}:valueAt ((i,I)::r) k=if i=k then ap I else valueAt r k:=by
 unfold valueAt;refine ab (am.find?_cons) ?_;by_cases q:i=k
 ·rw[et q,hq q];rfl
 ·exact ab (dx q) (ab (ia q) rfl)
theorem jf.val(zv:∀a b,f a=f b->a=b)(k:κ):∀{l:am (κ×V)} {c:am (lw×a9)},jf P d h f ok l c->match bY l k with |ap v=>∃I,valueAt c (f k)=ap I/\aF P d h v I |bk=>valueAt c (f k)=bk:=by
 intro g
 induction g with
 |iv=>
  intro Z e;exact e▸rfl
 |d2 p l i=>
  intro Z r;refine iy r λI s j Z m n=>?_;clear r;subst j;rw[b9,qa];by_cases q:p.1=k
  ·exact ab (et q) (ab (et (b5 f q)) (aR I rfl m))
  ·exact ab (dx q) (ab (dx λz=>q (zv _ _ z)) (i n))
theorem rT{i k:lw}{x v:a9}{r:am (lw×a9)}(hn:i∉r.hC (·.1)):stored ((i,x)::r) k v=if i=k then(i,v)::r else(i,x)::stored r k v:=by
 by_cases q:i=k
 ·subst q;haveI e:r.hC (λa=>if a.1=i then(a.1,v)else a)=r:=by
   conv=>rhs;rw[←am.map_id r]
   exact am.map_congr_left λa h=>dx λe=>hn (by exact ab e.symm (am.Ic h))
  unfold stored;refine ab am.any_cons (ab am.wL (ab e ?_));simp
 ·unfold stored;rw[am.any_cons,ia q,ct.false_or,am.wL,dx q,dx q]
  split<;>rfl
theorem pZ{i k:lw}{x:a9}{r:am (lw×a9)}(hn:i∉r.hC (·.1)):without ((i,x)::r) k=if i=k then r else(i,x)::without r k:=by
 by_cases q:i=k
 ·subst q;refine ab (et rfl) ?_
  conv=>rhs;rw[←without_of_not_mem r i hn]
  exact(am.filter_cons).trans ((dx (by simp)))
 ·refine ab (dx q) ?_;delta without;exact ab am.filter_cons (ab (et (by simp[q])) rfl)
theorem jf.put(zv:∀a b,f a=f b->a=b){k:κ}(n:ok k){v:V}{I:a9}(g:∀{v I},aF P d h v I->aF P' U h' v I)(i:aF P' U h' v I):∀{l:am (κ×V)} {c:am (lw×a9)},jf P d h f ok l c->(c.hC (·.1)).p9->jf P' U h' f ok (ee l k v) (stored c (f k) I):=by
 intro o
 induction o with
 |iv=>
  intro Z e Z;clear g zv;obtain rfl:_=[]:=e;exact nj I ([]) rfl n i rfl
 |d2 p l t=>
  intro Z r nd;refine iy r λx s u j w m=>?_;clear r;subst u;rw[am.wL,am.p5]at nd;refine ab ((rT nd.1)) ?_;rw[gS];by_cases q:p.1=k
  ·exact ab (et q) (ab (et (b5 f q)) (nj I s rfl j i (m.hC g)))
  ·exact ab (dx q) (ab (dx λz=>q (zv _ _ z)) (nj x _ rfl j (g w) (t m nd.2)))
theorem jf.del(zv:∀a b,f a=f b->a=b){k:κ}(g:∀{v I},aF P d h v I->aF P' U h' v I):∀{l:am (κ×V)} {c:am (lw×a9)},jf P d h f ok l c->(c.hC (·.1)).p9->jf P' U h' f ok (jv l k) (without c (f k)):=by
 intro j
 induction j with
 |iv=>
  intro Z e Z;clear g zv;obtain rfl:_=[]:=e;rfl
 |d2 p l m=>
  intro Z r nd;refine iy r λx s n o t i=>?_;clear r;subst n;rw[am.wL,am.p5]at nd;refine ab ((pZ nd.1)) ?_;rw[gT];by_cases q:p.1=k
  ·exact ab (et q) (ab (et (b5 f q)) (i.hC g))
  ·exact ab (dx q) (ab (dx λz=>q (zv _ _ z)) (nj x _ rfl o (g t) (m i nd.2)))
end
theorem CJ(a b:am a5)(h:cps a=cps b):a=b:=by have:=b5 (λs:h9=>s.cps.q6) h;exact this
theorem lR(a b:b0)(h:a=b):a=b:=h
section
variable{P:Ph}{d:H}{s:a6}{t k:a5}
theorem kO(i:b0)(t:Tok):(intKind G.D.bZ G.D.w).is i (.bn i t)=true:=by simp[intKind,a9.isInt]
end
section
variable{P:Ph}{d:H}{s:a6}{h:d4}{v w:V}{t k:a5}{l m:am V}{b c:am cy}{i n:a5}
theorem dm{M:z3}{h:d4}{I:a9}{T:z8}{r:bS a9}(a:∀s':a6,(∀b o,h.ck b=ap o->s'.bh.ck b=ap o)->s'.Fv I T)(c:r4 (.fX T) "__getitem__" =h8 r)
  (d:∃id,r=ap (.eu id)):r5 M h (Kv I) false:=by intro A E L s k q;refine a8.a7 (f3 (a s k) c ?_);clear k c a T I h;obtain⟨id,rfl⟩:=d;exact a8.cp q
def gU(v:V)(d:H):Prop:=∀P s I,St G.D P d s->aF P d s.bh v I->r5 (dd G.D.bZ G.D.w) s.bh (Kv I) false
def rB(t k:a5)(l:am V)(d:H):Prop:=∀{P s},St G.D P d s->∃us,s.bh.IsList (P.al t k) us.eb/\aA P d s.bh l us
theorem rB.of(a:d.ed t k=ap (.dG l)):rB t k l d:=λS=>by
 exact aO (S.dG a) λus n g r=>aR us ⟨_,g,rfl,n,rfl⟩ r
theorem rB.fix{o:Do}(a:d.ed t k=ap (.fix o l)):rB t k l d:=λS=>by
 obtain⟨g,us,c,r⟩:=(S.h.ed _ _ _ a).1;exact aR us ⟨_,g,c⟩ r
theorem gU.ls(a:rB t k l d):gU (.bs t k) d:=λP s I S r=>by
 obtain rfl:I=_:=r.1;refine aD λe b=>?_;obtain⟨us,⟨o,g,c,_⟩,_⟩:=a S;apply b;exact dm (λs k=>aR _ (k _ _ g) c) slot_list_getitem.eh ⟨_,rfl⟩
theorem gU.dG(a:d.ed t k=ap (.dG l)):gU (.bs t k) d:=.ls (rB.of a)
theorem gU.aB(a:d.ed t k=ap (.aB b)):gU (.bs t k) d:=λP s I S r=>by
 obtain rfl:I=_:=r.1;exact dm (λs k=>aR _ (k _ _ (S.aB a)) rfl) BA.g_.eh ⟨_,rfl⟩
theorem gU.BT{K:Type} [D6 K]{ms:KeyKind G.D.bZ G.D.w K}(b:∀P s,St G.D P d s->∃a,s.bh.GY ms (P.al t k) a):gU (.bs t k) d:=λP s I S r=>by
 obtain rfl:I=_:=r.1;obtain⟨a,Q⟩:=b P s S;obtain⟨ob,g,c⟩:s.Fv (.bs (P.al t k)) "dict" :=Q.LG;exact dm (λs k=>aR _ (k _ _ g) c) slot_dict_getitem.eh ⟨_,rfl⟩
theorem gU.KS:gU (.KS l) d:=λP s I S r=>by
 refine aD λg b=>?_;obtain⟨a,vs,rfl,f,⟨o,e,c,n,Q⟩,_⟩:=r;apply b;exact dm (λs k=>aR o (k _ _ e) c) slot_tuple_getitem.eh ⟨_,rfl⟩
theorem gU.d3:gU (.d3 b) d:=λP s I S r=>by
 obtain⟨t,rfl⟩:=r;exact dm (r:=ap (.eu "bytes.__getitem__")) (λs Z=>a8.W.uj s _ _) (by rw[f9,ek];kernel_rfl) ⟨_,rfl⟩
theorem qi{n ER:a5}(h:n<ER):K6 n ER=ap n:=by unfold K6;have:¬(n:b0)<0:=b0.to.ow (b0.dv n);rw[et (by simp only[ct.and_eq_true,decide_eq_true_eq];exact And.intro (b0.dv _) (b0.hB.ow (by assumption)))];rfl
theorem kS{us:am a9}{I:a9}(e:us[i]?=ap I):us.eb[i]?=ap I:=(am.getElem?_toArray).trans e
theorem bD.KS(e:l[i]?=ap v)(hi:i<2^62):bD (.KS l) (.bn i) d v:=⟨gU.KS,λA P s I z n S c g E L h=>by
 refine iy c λa us j f ht r=>?_;subst j;refine aN g λt k=>?_;subst k;refine ar (r.LL e) λI b m=>?_;exact cl (PyProof.Rows.getItem_tuple ht (b0.bb (by decide) (b0.dv i)) (b0.hB.ow (a5.ew (by assumption) av)) (qi (am.lb▸(am.hv.mp b).1)) (kS b) (S.at m h))⟩
theorem bD.dG(a:d.ed t k=ap (.dG l))(e:l[i]?=ap v)(hi:i<2^62):bD (.bs t k) (.bn i) d v:=⟨gU.dG a,λA P s I z o S b c E L f=>by
 obtain rfl:I=_:=b.1;refine aN c λt h=>?_;subst h;refine aO (S.dG a) λus j g q=>ar (q.LL e) λI m n=>?_;exact cl (wpAny_getItem_list ⟨_,g,rfl,j,rfl⟩ (b0.dv i) (b0.hB.ow (a5.ew hi av)) (kS m) (S.at n f))⟩
theorem bD.aB{c:cy}(a:d.ed t k=ap (.aB b))(e:b[i]?=ap c)(hi:i<2^62):bD (.bs t k) (.bn i) d (.bn c.fo):=⟨gU.aB a,λA P s I z j S f g E L h=>by
 obtain rfl:I=_:=f.1;obtain⟨t,rfl⟩:=g;exact cl (qI.FF (S.aB a) (b0.dv i) (b0.hB.ow (a5.ew (by assumption) av)) e λtk k'=>S.at (v:=.bn c.fo) ⟨_,rfl⟩ h)⟩
theorem bD.di{l:am (b0×V)}{x:b0}(a:d.ed t k=ap (.di l))(e:bY l x=ap v):bD (.bs t k) (.bn x) d v:=⟨gU.BT λP s S=>(S.h.ed _ _ _ a).1.DO λZ z=>z.1,λA P s I z f S b c E L g=>by
 clear f;obtain rfl:I=_:=b.1;refine aN c λt h=>?_;clear c b;subst h;refine ar ((S.h.ed _ _ _ a).1) λo i j=>?_;have:=j.val lR x;replace this:=e▸this;refine ar this λI m n=>?_;exact cl (wpAny_getItem_of (kO x t) i.mapOf m (S.at n g))⟩
end
end Internal
end
section
open PySem.SeqAt
namespace Internal
open Tactic (cP)
section
variable{P P':Ph}{d U:H}{s:a6}{h:d4}{v w lo hi:V}{t k:a5}{l m:am V}{b c:am cy}{i j n:a5}{ce:a5}
def endAt(v:V)(dflt k:a5):Prop:=(v=.i1/\k=dflt)\/v=.bn k
theorem VO.part{I:a9}(r:VO v I P d h)(e:endAt v n i):∃x:bS a5,IsPart I (cP x)/\x.ww n=i:=by
 rcases e with⟨rfl,rfl⟩ |rfl
 ·rcases r with⟨_,rfl⟩ |r
  ·exact aR .bk .bk rfl
  ·exact r.ef
 ·rcases r with⟨r,_⟩ |r
  ·cases r
  ·obtain⟨t,rfl⟩:=r;exact aR (ap i) (.bn i t) rfl
def Iu{α:Type}(l:am α)(i j:a5):am α:=(l.m0 j).zt i
theorem aA.zt:∀{l:am V} {us:am a9} (n:a5),aA P d h l us->aA P d h (l.zt n) (us.zt n)
 |_,_,0,r=>r
 | [],us,n+1,r=>by obtain rfl:us=[]:=r;fail"c"
 |_::_,us,n+1,r=>by refine dQ r λI e a b c=>?_;clear b r;subst a;exact aA.zt n c
theorem aA.m0:∀{l:am V} {us:am a9} (n:a5),aA P d h l us->aA P d h (l.m0 n) (us.m0 n)
 |_,_,0,r=>rfl
 | [],us,n+1,r=>by obtain rfl:us=[]:=r;fail"c"
 |_::_,us,n+1,r=>by refine dQ r λI a b c e=>?_;clear r;subst b;exact eN I (a.m0 n) rfl c (aA.m0 n e)
theorem yy(a:am a9)(x y:bS a5):slicePick a.eb (cP x) (cP y) bk=(Iu a (x.ww 0) (y.ww a.ah)).eb:=by unfold slicePick;rw[show a.eb.hN=a.ah from am.lb,qI.bounds,a8.sliceRange_one,a8.pick_run,qI.vP];rfl
theorem fL.ls(b:rB t k l d)(e:endAt lo 0 i)(f:endAt hi l.ah j)(q:l.ah<=aQ):fL (.bs t k) lo hi d (.ok (.bs ce (d.gz ce)) (d.hM ce (.dG (Iu l i j)))):=⟨gU.ls b,λA P s I z r S h m E L u=>by
 clear r;obtain rfl:I=_:=h.1;refine aD λB n=>?_;refine tE m λa lv C v fr g o p=>?_;clear fr m h;subst v;refine ar (b S) λus w q1=>?_;refine ar (o.part e) λx p1 c=>?_;clear o e b;subst c;refine ar (p.part f) λy p2 c=>?_;clear p f;subst c;apply n;clear n;refine cl (wpAny_getItem_list_slice w (mM _ g rfl rfl) p1 p2 .bk (λz=>dE z) ?_ ?_)
 ·rw[yy,←q1.ah];exact S.BY ((aA.m0 _ q1).zt _) u
 ·exact ab am.lb (ab q1.ah.symm (a5.bb q av))⟩
theorem fL.dG(a:d.ed t k=ap (.dG l))(b:endAt lo 0 i)(c:endAt hi l.ah j)(q:l.ah<=aQ):fL (.bs t k) lo hi d (.ok (.bs ce (d.gz ce)) (d.hM ce (.dG (Iu l i j)))):=.ls (rB.of a) b c q
theorem fL.aB(e:d.ed t k=ap (.aB b))(f:endAt lo 0 i)(h:endAt hi b.ah j)(q:b.ah<=aQ):fL (.bs t k) lo hi d (.ok (.bs ce (d.gz ce)) (d.hM ce (.aB (Iu b i j)))):=⟨gU.aB e,λA P s I z r S l m E L u=>by
 clear r;obtain rfl:I=_:=l.1;refine aD λw n=>?_;refine tE m λa lv B v fr g o p=>?_;clear fr m l;subst v;refine ar (o.part f) λx p1 c=>?_;clear o f;subst c;refine ar (p.part h) λy p2 c=>?_;clear p h;subst c;apply n;clear n;exact cl (qI.yf (S.aB e) (a5.bb q av) (mM _ g rfl rfl) p1 p2 (S.Lf u))⟩
theorem fL.d3(e:endAt lo 0 i)(f:endAt hi b.ah j)(q:b.ah<=aQ):fL (.d3 b) lo hi d (.ok (.d3 (Iu b i j)) d):=⟨gU.d3,λA P s I z o S h k E L p=>by
 refine aD λw l=>?_;refine aN h λt r=>?_;clear h o;subst r;refine tE k λa lv B u fr g m n=>?_;clear fr k;subst u;refine ar (m.part e) λx p1 c=>?_;clear m e;subst c;refine ar (n.part f) λy p2 c=>?_;clear n f;subst c;apply l;clear l;exact cl (qI.rV (a5.bb q av) (mM _ g rfl rfl) p1 p2 λt tk=>S.at (v:=.d3 (Iu b _ _)) ⟨t,rfl⟩ p)⟩
theorem fL.KS(h1:1<=i)(h2:i<=l.ah)(q:l.ah<=aQ):fL (.KS l) (.bn i) .i1 d (.ok (.KS (l.zt i)) d):=⟨gU.KS,λA P s I z n S c h E L o=>by
 refine iy c λta us p f ht r=>?_;clear f c n;subst p;refine tE h λa lv u v fr g j w=>?_;clear fr h;subst v;refine aN (j.K0 nofun) λt y=>?_;clear j;subst y;obtain rfl:u=.bk:=w.ef (·.2) λz=>z.ef;haveI k:=r.ah;refine cl (getItem_tuple_from ht (mM _ g rfl rfl) h1 (ab am.lb (ab ((k).symm) h2)) ?_ ?_)
 ·haveI m:=S.h.hA (h':=s.bh.o4 {mm:=.fX "tuple",hy:=.seq (us.zt i).eb}) (λb x e=>d4.e7 _ e);have:=o _ {s with bh:=s.bh.o4 {mm:=.fX "tuple",hy:=.seq (us.zt i).eb}} P ⟨m.1,S.r⟩ m.2 ⟨_,us.zt i,rfl,(S.eS bT).1,⟨_,d4.m8 _ rfl,rfl,0,rfl⟩,aA.kx m.2.q7 (aA.zt i r)⟩;exact this
 ·simp only[F1];have:us.ah<=1000000:=k▸q;simp;exact a5.bb (by assumption) av⟩
end
end Internal
end
section
open PySem.SeqAt
namespace Internal
theorem CK(a b:am a5):(cps a==cps b)=(a==b):=by rw[ct.eq_iff_iff,wn,wn];exact⟨CJ a b,λh=>by exact ab h rfl⟩
def Qa(n:a5)(v w:V)(b:ct):Prop:=(∀P d h I,aF P d h v I->aF P d h w I->b=true)/\∀A P d (s:a6) I z,A.FD+n<9900->aF P d s.bh v I->aF P d s.bh w z->EqAt A s I z b
def PG(A:ec)(s:a6)(us ws:rv a9)(b:ct):Prop:=∃f:a5->ct,us.hN=ws.hN/\(∀j (h1:j<us.hN) (h2:j<ws.hN),EqAt A s us[j] ws[j] (f j))/\b=(am.range us.hN).l3 f
def MF(n:a5)(l m:am V)(b:ct):Prop:=(∀P d h us,aA P d h l us->aA P d h m us->b=true)/\∀A P d (s:a6) us ws,A.FD+n<9900->aA P d s.bh l us->aA P d s.bh m ws->PG A s us.eb ws.eb b
section
variable{P:Ph}{d:H}{s:a6}{v w:V}{t k t' k':a5}{l m:am V}{b:ct}{x y:b0}
theorem aC.bl(S:St G.D P d s){A:ec}{a:xE a9}(h:∀(E:a9->a6->Prop) (L:a9->a6->Prop),E (.gg b) s->a8.ch (dd G.D.bZ G.D.w) A a E L s):aC G.D bk A VS P d s (.ok (.gg b) d) a:=λE L k=>cl (h E L (k _ s P S .hJ rfl))
theorem w5{o:FH}(h:∀A P s t I,St G.D P d s->aC G.D bk A VS P d s (.ok (.gg b) d) (H1 o (.bn x t) (.bn y I))):aq o (.bn x) (.bn y) d b:=λA P s I z g S a c=>by
 obtain⟨e,rfl⟩:=a;obtain⟨f,rfl⟩:=c;exact h A P s e f S
theorem aq.lt:aq .Lt (.bn x) (.bn y) d (decide (x<y)):=w5 λA P s t I S=>aC.bl S λE L k=>PyProof.Rows.lt_int k
theorem aq.le:aq .LtE (.bn x) (.bn y) d (decide (x<=y)):=w5 λA P s t I S=>aC.bl S λE L k=>PyProof.Rows.le_int k
theorem aq.gt:aq .Gt (.bn x) (.bn y) d (decide (y<x)):=w5 λA P s t I S=>aC.bl S λE L k=>PyProof.Rows.gt_int k
theorem aq.ge:aq .GtE (.bn x) (.bn y) d (decide (y<=x)):=w5 λA P s t I S=>aC.bl S λE L k=>PyProof.Rows.ge_int k
theorem aq.gW:aq .Eq (.bn x) (.bn y) d (x==y):=w5 λA P s t I S=>aC.bl S λE L k=>RcAt.int_int x t y I _ _ _ _ k
theorem aq.BZ:aq .FT (.bn x) (.bn y) d (!(x==y)):=w5 λA P s t I S=>aC.bl S λE L k=>RcNeAt.int_int x t y I _ _ _ _ k
theorem aq.Kq{x y:am a5}:aq .Eq (.J6 x) (.J6 y) d (x==y):=λA P s I z f S a b=>by
 obtain⟨c,rfl⟩:=a;obtain⟨e,rfl⟩:=b;exact aC.bl S λE L k=>RcAt.str_str _ c _ e _ _ _ _ (by rw[CK];exact k)
theorem aq.M6{x y:ct}:aq .FT (.gg x) (.gg y) d (!(x==y)):=λA P s I z c S a b=>by
 obtain rfl:I=_:=a;obtain rfl:z=_:=b;exact aC.bl S λE L k=>RcNeAt.bool_bool x y _ _ _ _ k
theorem Rm.lt{A:ec}(h:Rm A):A.FD<cLine:=a5.fp h.FD av
theorem tJ(h:MF 8 l m b){A:ec}(a:Rm A)(S:St G.D P d s){I z:a9}(e:aF P d s.bh (.KS l) I)(g:aF P d s.bh (.KS m) z):RcAt A s I z b/\RcNeAt A s I z (!b):=by refine iy e λt us c o h1 q1=>?_;clear o e S;subst c;refine iy g λt' ws c p h2 q2=>?_;clear p g;subst c;refine lI (h.2 A.in1 P d s us ws (by show A.FD+1+8<9900;exact a5.fp (a5.A9 a.FD 9) av) q1 q2) λf i j q=>?_;haveI k:=RcAt.tuples h1 h2 a.lt j;haveI n:=RcNeAt.tuples h1 h2 a.lt j;rw[i,a5.min_self,Bb,ct.and_true,←i,←q]at k n;exact⟨k,n⟩
theorem Le(h1:d.ed t k=ap (.dG l))(h2:d.ed t' k'=ap (.dG [])){A:ec}(a:Rm A)(S:St G.D P d s):RcAt A s (.bs (P.al t k)) (.bs (P.al t' k')) l.sw/\RcNeAt A s (.bs (P.al t k)) (.bs (P.al t' k')) (!l.sw):=by
 refine aO (S.dG h1) λus m f c=>aO (S.dG h2) λws n g o=>?_;clear S h2 h1;obtain rfl:ws=[]:=o;have b:s.bh.IsList (P.al t k) us.eb:=⟨_,f,rfl,_,rfl⟩;have i2:s.bh.IsList (P.al t' k') ([]:am a9).eb:=⟨_,g,rfl,_,rfl⟩;clear g f n m;cases l with
 |iv=>
  obtain rfl:us=[]:=c;exact⟨RcAt.lists (e:=λZ=>true) b i2 rfl a.lt (λj h=>kk h (a5.not_lt_zero j)),RcNeAt.lists (e:=λZ=>true) b i2 rfl a.lt (λj h=>kk h (a5.not_lt_zero j))⟩
 |d2 v l=>
  refine aD λq i=>?_;refine dQ c λI us p Z Z=>?_;clear c;subst p;apply i;clear i;exact⟨RcAt.lists_lengths b i2 rfl a.lt,RcNeAt.lists_lengths b i2 rfl a.lt⟩
theorem aq.wH(h1:d.ed t k=ap (.dG l))(h2:d.ed t' k'=ap (.dG [])):aq .FT (.bs t k) (.bs t' k') d (!l.sw):=λA P s I z a S b c=>by
 obtain rfl:I=_:=b.1;obtain rfl:z=_:=c.1;exact aC.bl S λE L k=>(Le h1 h2 a S).2 _ _ _ _ k
end
section
variable{P:Ph}{d:H}{s:a6}{v w:V}{t k t' k':a5}{l m:am V}{b:ct}{x y:b0}{A:ec}
theorem vw{I:a9}{h:d4}(r:aF P d h v I)(hn:v≠ .bk):I≠ .bk:=λe=>by
 subst e;cases v with
 |i1=>exact r
 |bk=>exact hn rfl
 |gg _=>cases r
 |bn _=>refine aN r λt e=>?_;cases e
 |J6 _=>refine aN r λt e=>?_;cases e
 |d3 _=>refine aN r λt e=>?_;cases e
 |KS _=>refine aO r λa vs e Z=>?_;cases e
 |bs _ _=>cases r.1
theorem aq.Fq:aq .Is .bk .bk d true:=λA P s I z c S a b=>by
 obtain rfl:I=_:=a;obtain rfl:z=_:=b;exact aC.bl S λE L k=>is_none_none k
theorem aq.ud(hn:v≠ .bk):aq .Is v .bk d false:=λA P s I z c S a b=>by
 obtain rfl:z=_:=b;exact aC.bl S λE L k=>is_none_ne (vw a hn) k
theorem aq.uc:aq .IsNot .bk .bk d false:=λA P s I z c S a b=>by
 obtain rfl:I=_:=a;obtain rfl:z=_:=b;exact aC.bl S λE L k=>isnot_none_none k
theorem aq.vH(hn:v≠ .bk):aq .IsNot v .bk d true:=λA P s I z c S a b=>by
 obtain rfl:z=_:=b;exact aC.bl S λE L k=>isnot_none_ne (vw a hn) k
theorem aq.DL:aq .IsNot (.bs t k) (.bs t k) d false:=λA P s I z c S a b=>by
 obtain rfl:I=_:=a.1;obtain rfl:z=_:=b.1;exact aC.bl S λE L k=>wpAny_isNot_ref_self k
abbrev St.nI:Prop:=∀(S:St G.D P d s) (l:qE d t k),P.k0 (P.al t k)=.d9 t k/\∃ob,s.bh.ck (P.al t k)=ap ob/\ob.mm≠ .fX "tuple"
theorem St.tT:∀{P d s t k},@St.nI P d s t k:=by
 refine λ{P d s t k}=>cK (q:=xO @St.nI) ((?_:∀P d s t k,@St.nI P d s t k) _ _ _ _ _) (P,d,s,t,k);intro P d s t k S l;refine aN (bS.v8.mp l) λo e=>?_;obtain⟨r,w⟩:=S.h.ed t k o e;refine⟨w,?_⟩;cases o with
 |qD fs=>exact ED r λQ es n a Z=>aR _ a (iD a9.b4)
 |dG l=>exact aO r λus n g Z=>aR _ g (λe=>nomatch(show(a9.fX "list" =.fX "tuple")from e))
 |di l=>refine ar r λb Q Z=>ar (Q.LG) λob g c=>?_;exact aR ob g (by refine ab c ?_;decide)
 |ds l=>refine ar r λb Q Z=>ar (Q.LG) λob g c=>?_;exact aR ob g (by refine ab c ?_;decide)
 |aB l=>exact aR _ r (λe=>nomatch(show(a9.fX "bytearray" =.fX "tuple")from e))
 |fix _ l=>obtain⟨g,us,⟨c,_⟩,_⟩:=r;exact aR _ g (by refine ab c ?_;decide)
abbrev rx:Prop:=∀(ne:(t,k)≠(t',k')) (S:St G.D P d s) (b:qE d t k) (c:qE d t' k'),P.al t k≠P.al t' k'/\∃a o2,s.bh.ck (P.al t k)=ap a/\s.bh.ck (P.al t' k')=ap o2/\a.mm≠ .fX "tuple"
theorem apart:∀{P d s t k t' k'},@rx P d s t k t' k':=by refine λ{P d s t k t' k'}=>cK (q:=tG @rx) ((?_:∀P d s t k t' k',@rx P d s t k t' k') _ _ _ _ _ _ _) (P,d,s,t,k,t',k');intro P d s t k t' k' ne S b c;refine aD λg e=>?_;obtain⟨a,h,i,c1⟩:=S.tT b;obtain⟨f,o2,j,l⟩:=S.tT c;apply e;clear e;exact⟨λz=>by replace a:=f▸z▸a;clear z l f g c b S;cases a;exact ne rfl,h,o2,i,j,c1⟩
theorem St.tY(S:St G.D P d s)(lv:qE d t k):(P.al t k==sysModules)=false:=by refine aN (G.ok S.lv).sys λob g=>?_;rw[ki];exact qo (S.tT lv).1 (S.h.tg _ _ g).2 (iD GX.b4)
theorem tj{κ lw:Type} [D6 κ] [D6 lw]{f:κ->lw}{ok:κ->Prop}{h:d4}{l:am (κ×V)}{c:am (lw×a9)}(zv:∀a b,f a=f b->a=b)(Q:jf P d h f ok l c)(x:κ):(valueAt c (f x)).z_=(bY l x).z_:=by
 haveI z:=Q.val zv x;cases e:bY l x with
 |bk=>replace z:=e▸z;exact ab z rfl
 |ap v=>replace z:=e▸z;exact ar z λI q Z=>ab q rfl
theorem aq.inD{l:am (b0×V)}(b:d.ed t k=ap (.di l)):aq .In (.bn x) (.bs t k) d (bY l x).z_:=λA P s I z c S a e E L f=>by
 refine aN a λtk g=>?_;clear a c;subst g;obtain⟨rfl,lv⟩:=e;refine ar ((S.h.ed _ _ _ b).1) λj h i=>?_;exact cl (wpAny_in_of (kO x tk) (S.tY lv) h.mapOf (ab (tj lR i x) (S.at (v:=.gg _) rfl f)))
theorem nW{xs:am b0}{h:d4}{I:a9}{tk:Tok}(e:I=.bn x tk):∀{us:am a9},aA P d h (xs.hC .bn) us->(∀y,y∈us->∃i t,y=.bn i t)/\us.any (λy=>match y with | .bn i _=>i==x |_=>false)=xs.b6 x:=by
 induction xs with
 |iv=>intro us r;obtain rfl:us=[]:=r;exact⟨(λZ z=>bC z),rfl⟩
 |d2 a xs c=>
  intro us r;obtain⟨_,us,rfl,⟨g,rfl⟩,f⟩:=r;refine⟨λy b=>?_,?_⟩
  ·rcases am.hD.mp b with rfl |b
   ·exact xK a g rfl
   ·exact((c f).1) y b
  ·exact(am.any_cons).trans (ab ((c f).2) (ab am.contains_cons (ab ct.beq_comm rfl)))
theorem aq.HF{xs:am b0}:aq .NotIn (.bn x) (.KS (xs.hC .bn)) d (!xs.b6 x):=λA P s I z l S c e=>by
 refine aN c λtk m=>?_;clear c l;subst m;refine iy e λa us b Z h r=>?_;clear e;subst b;obtain⟨f,g⟩:=nW (tk:=tk) rfl r;refine aC.bl S λE L k=>notIn_tupleAt (λy=>match y with | .bn i _=>i==x |_=>false) h (λy j=>?_) (ab am.any_toArray (ab g k));refine f_ (f y (by simpa using j)) λi t b=>?_;clear j k L E g f r h us S xs;subst b;exact EqAt.int_int _ _ _ _
end
end Internal
end
section
open PySem PySem.W PyProof.Rows
namespace Tactic
section
variable{bZ:mS}{w:tq}{A:ec}{L:a9->a6->Prop}{s:a6}
theorem qm:("bytearray.__new__".splitOn ".__new__").headD "" = "bytearray" :=by rw[split_bytearray];rfl
theorem sL{ci:am a9}(a:p3 "bytearray.__new__" ⟨.fX "bytearray" ::ci,[]⟩=h8 ()){Q₁:a9->a6->Prop}
  (h:Q₁ (.bs s.bh.kq.hN) {s with bh:=s.bh.o4 {mm:=.fX "bytearray",hy:=.bytearray #[]}}):
  a8.codeAny (dd bZ w) A (.ng (.eu "bytearray.__new__") ⟨.fX "bytearray" ::ci,[]⟩) (wants Q₁ L) s:=by
 refine a8.codeAny_of_tree (a8.a7 (a8.gu a (a8.cp ⟨F2 a4.BA.pe _,codeAny_builtin_stack a4.BA.wX rfl λp st=>(ec.I1 a4.BA.pe _)▸?_⟩)));haveI b:=a4.BA.sub_self;obtain⟨c,g,Q,tk,os⟩:=s;dsimp only;rw[qm]
 wp_walk
 exact h
end
end Tactic
namespace Internal
theorem bw{M:z3}{α:Type}{A:ec}{L:a9->a6->Prop}{s:a6}{c:ct}{t e:xE α}{E:α->a6->Prop}(a:c=false)(h:ch M A e E L s):ch M A (if c=true then t else e) E L s:=by subst a;exact h
section
variable{bZ:mS}{w:tq}{A:ec}{R:r3->a6->Prop}{s:a6}
theorem q8{id:z8}{ci:Args}{b:l7}(hb:Cm table id=ap b)(hd:l7.y3.Iy.b6 id=false)
  (h2:ch (dd bZ w) (A.under (.eu id ci)) (b ci) (λa s'=>match a with | .done f=>R (.ok f) s' | .J2 c'=>c'.quiet=true/\az (dd bZ w) A c' R s') (λe s'=>R (.B3 e) s') s):az (dd bZ w) A (.eu id ci) R s:=by refine aI hd ?_;show ch _ _ (match Cm table id with |ap b=>b ci |bk=>J3 ((withoutEnding? id "#data").ww id)) _ _ s;exact a4.ab hb h2
theorem qf{T id:z8}{wQ:h9}{y6:a9}{s8:am a9}{b:l7}(sl:Slot T wQ id)(a:s.Fv y6 T)(ha:D0 id ⟨y6::s8,[]⟩)(hb:Cm table id=ap b)(hd:l7.y3.Iy.b6 id=false)
  (h2:ch (dd bZ w) A.in1 (b ⟨y6::s8,[]⟩) (λc s'=>match c with | .done f=>R (.ok f) s' | .J2 c'=>c'.quiet=true/\az (dd bZ w) A c' R s') (λe s'=>R (.B3 e) s') s):az (dd bZ w) A (.ng (.eu id) ⟨y6::s8,[]⟩) R s:=
 kl (F2 sl.rE _) hb hd (sl.check _ _ _ _ _ _ _ _ a ha rfl) (a4.ab (ec.I1 sl.rE _) h2)
abbrev km{T a b:z8}{ci:am a9}:Prop:=∀(c:TypeCalled T a b) (d:checkTypeCall T ⟨ci,[]⟩=h8 ()) (e:az (dd bZ w) A.in1 (.ng (.eu a) ⟨.fX T::ci,[]⟩) (λr s'=>match r with
   | .ok (.ret ed)=>s'.Fv ed T/\az (dd bZ w) A.in1 (.ng (.eu b) ⟨ed::ci,[]⟩) (λr s'=>match r with | .ok (.ret v)=>v=.bk/\R (.ok (.ret ed)) s' |_=>uk) s'
   |_=>uk) s),az (dd bZ w) A (.ng (.fX T) ⟨ci,[]⟩) R s
theorem AI:∀{bZ w A R s T b d ci},@km bZ w A R s T b d ci:=by
 refine λ{bZ w A R s T b d ci}=>a4.cK (q:=a4.nk @km) ((?_:∀bZ w A R s T b d ci,@km bZ w A R s T b d ci) _ _ _ _ _ _ _ _ _) (bZ,w,A,R,s,T,b,d,ci);intro bZ w A R s T b d ci a g h;refine a4.f_ a.mro λc tl i=>?_;haveI j:=a.made;haveI k:=a.Kj;haveI h1:=a.notType;haveI h2:=a.canCreate;refine aI rfl (af (And.intro (KM.quiet_builtin _ (by decide+kernel)) (q8 F.entry_type_call (by decide+kernel) ?_)));rw[ec.under_plain (weight_type_call_type T ci []) rfl];haveI li:=a.init.eh;refine bw h1 (bw h2 (aa (aG g ?_)));refine aa (aG i (bw rfl (aa (aG j (aa (af ?_))))));refine aa (ak (aT (cz h λr s' z=>?_)));rcases r with e |(ed |_ |_ |_)<;>first |exact z.ef |skip
 rename_i ed
 haveI f:=z.1;haveI hi:=z.2;refine aa (cl (Bc f k ?_));refine bw rfl (aa (ak (aa (cl (f3 f li ?_)))));refine ak (aa (aG (a.init.tb ed) (aa (aT (cz hi λr s' z=>?_)))));rcases r with e |(v |_ |_ |_)<;>first |exact z.ef |skip
 obtain⟨rfl,z⟩:=z;exact af (af z)
abbrev oC{ci:am a9}:Prop:=∀(c:checkTypeCall "bytearray" ⟨ci,[]⟩=h8 ()) (hn:p3 "bytearray.__new__" ⟨.fX "bytearray" ::ci,[]⟩=h8 ()) (ha:∀a,D0 "bytearray.__init__" ⟨a::ci,[]⟩) (h:ch (dd bZ w) A.in1.in1 (l7.«bytearray.__init__» ⟨.bs s.bh.kq.hN::ci,[]⟩) (λb s'=>match b with | .done (.ret v)=>v=.bk/\R (.ok (.ret (.bs s.bh.kq.hN))) s' |_=>uk) (λZ Z=>uk) {s with bh:=s.bh.o4 {mm:=.fX "bytearray",hy:=.bytearray #[]}}),az (dd bZ w) A (.ng (.fX "bytearray") ⟨ci,[]⟩) R s
theorem AP:∀{bZ w A R s ci},@oC bZ w A R s ci:=by
 refine λ{bZ w A R s ci}=>a4.cK (q:=a4.tH @oC) ((?_:∀bZ w A R s ci,@oC bZ w A R s ci) _ _ _ _ _ _) (bZ,w,A,R,s,ci);intro bZ w A R s ci b hn ha h;refine AI BA.called b (L9 (a8.codeAny_mono (qI.sL hn (Q₁:=λv s'=>v=.bs s.bh.kq.hN/\s'={s with bh:=s.bh.o4 {mm:=.fX "bytearray",hy:=.bytearray #[]}}) (L:=λZ Z=>uk) ⟨rfl,rfl⟩) λr s' z=>?_));rcases r with e |(v |_ |_ |_)<;>first |exact z.ef |skip
 obtain⟨rfl,rfl⟩:=z;haveI a:(a6.Fv {s with bh:=s.bh.o4 {mm:=.fX "bytearray",hy:=.bytearray #[]}} (.bs s.bh.kq.hN) "bytearray"):=⟨_,d4.m8 _ rfl,rfl⟩;refine⟨a,qf BA.ji a (ha _) BA.uz (by decide+kernel) (aw h (λd s' z=>?_) λZ Z z=>z.ef)⟩;cases d with
 |done f=>cases f<;>first |exact z |exact z.ef
 |J2 c=>exact z.ef
end
end Internal
end
section
open PySem PySem.W PyProof.Rows
namespace Internal
open Tactic PySem.Builtin
namespace BA
theorem look_release:r4 (.fX "bytearray") "__release_buffer__" =h8 (ap (.eu "bytearray.__release_buffer__")):=by rw[f9,ek];kernel_rfl
theorem Ce:r4 (.fX "bytearray") "__buffer__" =h8 (ap (.eu "bytearray.__buffer__")):=by rw[f9,ek];kernel_rfl
theorem Jk:y3.bindOptional "bytearray.__init__" "bytearray" ["source","encoding","errors"] [] []=h8 [bk,bk,bk]:=by kernel_rfl
theorem bind1(v:a9):y3.bindOptional "bytearray.__init__" "bytearray" ["source","encoding","errors"] [v] []=h8 [ap v,bk,bk]:=by kernel_rfl
theorem i_:r4 (.fX "bytes") "__index__" =h8 bk:=by rw[f9,ek];kernel_rfl
end BA
section
variable{M:z3}{A:ec}{L:a9->a6->Prop}{s:a6}{a:e9}{b:am cy}
theorem sa{wQ:z8}{E:ct->a6->Prop}(b:s.Fv (.bs a) "bytearray")(c:r4 (.fX "bytearray") (wQ:h9)=h8 (ap (.eu ("bytearray." ++wQ))))
  (h1:(!(("bytearray." ++wQ).endsWith ("." ++wQ)))=false) (h2:("bytearray." ++wQ).dropRight (wQ.ah+1)= "bytearray") (h:E true s):a8.ch M A (y3.slotIsOwn (.bs a) wQ) E L s:=by refine a8.a7 (a8.f3 b c ?_);dsimp only;rw[h1,h2];exact a8.Bc b BA.sub_self h
theorem gY{E:ct->a6->Prop}(b:s.Fv (.bs a) "bytearray")(h:E false s):a8.ch M A (y3.ownRelease (.bs a)) E L s:=by exact a8.a7 (sa b BA.look_release (by decide+kernel) (by decide+kernel) (a8.cp h))
theorem j0{E:ct->a6->Prop}(hg:A.Iz=ap [])(ha:s.bh.ck a=ap (cE b))(h:E false s):ch M A (y3.exported (.bs a)<||>(do return(←y3.exportsOf (.bs a))>0)) E L s:=by refine aa (nq hg ?_);apply aa;exact aa (cJ ha (af (af h)))
theorem Bg{E:y5->a6->Prop}(hg:A.Iz=ap [])(ha:s.bh.ck a=ap (cE b))(h:E () s):ch M A (y3.checkResize (.bs a)) E L s:=by exact aa (j0 hg ha (bw rfl (af h)))
end
section
variable{bZ:mS}{w:tq}{A:ec}{L:a9->a6->Prop}{s:a6}{a:e9}{b:am cy}
theorem eV{M:z3}{α:Type}{A:ec}{L:a9->a6->Prop}{s:a6}{c:ct}{t e:xE α}{E:α->a6->Prop}(a:c=true)(h:ch M A t E L s):ch M A (if c=true then t else e) E L s:=by subst a;exact h
abbrev zU(R:a6->Prop):a8.Fin->a6->Prop:=λa s'=>match a with | .done (.ret v)=>v=.bk/\R s' |_=>uk
abbrev qB{R:a6->Prop}:Prop:=∀(hg:A.Iz=ap []) (ha:s.bh.ck a=ap (cE [])) (h:∀h',h'.ck a=ap (cE [])->d4.nT a s.bh h'->R {s with bh:=h'}),ch (dd bZ w) A (l7.«bytearray.__init__» ⟨[.bs a],[]⟩) (zU R) L s
theorem H7:∀{bZ w A L s a R},@qB bZ w A L s a R:=by refine λ{bZ w A L s a R}=>cK (q:=tG @qB) ((?_:∀bZ w A L s a R,@qB bZ w A L s a R) _ _ _ _ _ _ _) (bZ,w,A,L,s,a,R);intro bZ w A L s a R hg ha h;refine aa (cl (gY (qI.ty ha) ?_));refine bw rfl (aa (aG BA.Jk ?_));refine aa (aG (a:=()) rfl ?_);refine aa (aG (a:=()) rfl ?_);refine aa (j0 hg ha (bw rfl ?_));refine aa (cl (e_ ha av λh' z y=>?_));refine aa (aG (a:=()) rfl ?_);exact af ⟨rfl,h h' (by simpa using z) y⟩
abbrev Fs{n:b0}{t:Tok}{R:a6->Prop}:Prop:=∀(hg:A.Iz=ap []) (ha:s.bh.ck a=ap (cE [])) (h0:0<=n) (h1:n<=1000000) (h:∀h',h'.ck a=ap (cE (am.f7 n.fo 0))->d4.nT a s.bh h'->R {s with bh:=h'}),ch (dd bZ w) A (l7.«bytearray.__init__» ⟨[.bs a,.bn n t],[]⟩) (zU R) L s
abbrev hH{c:am cy}{t:Tok}{R:a6->Prop}:Prop:=∀(hg:A.Iz=ap []) (ha:s.bh.ck a=ap (cE [])) (h1:c.ah<=16777216) (h:∀h',h'.ck a=ap (cE c)->d4.nT a s.bh h'->R {s with bh:=h'}),ch (dd bZ w) A (l7.«bytearray.__init__» ⟨[.bs a,.d3 c.eb t],[]⟩) (zU R) L s
theorem uh:∀{bZ w A L s a c t R},@hH bZ w A L s a c t R:=by
 refine λ{bZ w A L s a c t R}=>cK (q:=nk @hH) ((?_:∀bZ w A L s a c t R,@hH bZ w A L s a c t R) _ _ _ _ _ _ _ _ _) (bZ,w,A,L,s,a,c,t,R);intro bZ w A L s a c t R hg ha h1 h;refine aa (cl (gY (qI.ty ha) ?_));refine bw rfl (aa (aG (BA.bind1 _) ?_));refine aa (aG (a:=()) rfl ?_);refine aa (aG (a:=()) rfl ?_);refine aa (j0 hg ha (bw rfl ?_));refine aa (cl (e_ ha av λh' z y=>?_));refine aa (aG rfl ?_);apply bw rfl;refine aa (aG (a:=()) rfl ?_);refine aa (cl (a8.f3 (a8.W.uj _ c.eb t) BA.i_ ?_));refine bw rfl (aa (aG KBy.buffer_eq ?_));haveI b:h'.ck a=ap (cE []):=by simpa using z
 refine aa (cI ?_);refine aa (cl (e_ b (by simp[ut];assumption) λh2 d e=>?_));exact af ⟨rfl,h h2 (by simpa using d) (y.trans e)⟩
end
end Internal
end
section
open PySem PySem.W PyProof.Rows
namespace Tactic
open PySem.Builtin
theorem qq:r4 (.fX "int") "__bytes__" =h8 bk:=by rw[f9,ek];kernel_rfl
theorem sg:r4 (.fX "bytearray") "__bytes__" =h8 bk:=by rw[f9,ek];kernel_rfl
theorem sf:r4 (.fX "bytearray") "__index__" =h8 bk:=by rw[f9,ek];kernel_rfl
theorem ua:r4 (.fX "bytes") "__bytes__" =h8 (ap (.eu "bytes.__bytes__")):=by rw[f9,ek];kernel_rfl
section
variable{M:z3}{bZ:mS}{w:tq}{A:ec}{L:a9->a6->Prop}{s:a6}{a:e9}{b:am cy}
theorem jC{E:ct->a6->Prop}(b:s.Fv (.bs a) "bytearray")(h:E true s):ch M A (y3.slotIsOwn (.bs a) "__buffer__") E L s:=
 a4.sa b a4.BA.Ce (by decide+kernel) (by decide+kernel) h
abbrev jb{id:z8}{c:ct}{E:bS (rv cy)->a6->Prop}:Prop:=∀(ha:s.bh.ck a=ap (cE b)) (h:E (ap b.eb) s),ch M A (y3.buffer? id (.bs a) c) E L s
theorem pQ:∀{M A L s a b id c E},@jb M A L s a b id c E:=by refine λ{M A L s a b id c E}=>a4.cK (q:=a4.nk @jb) ((?_:∀M A L s a b id c E,@jb M A L s a b id c E) _ _ _ _ _ _ _ _ _) (M,A,L,s,a,b,id,c,E);intro M A L s a b id c E ha h;haveI d:=qI.ty ha;refine a7 (f3 d a4.BA.Ce (a7 (jC d ?_)));refine a7 (f3 d a4.BA.Ce (a7 (a4.gY d ?_)));exact a7 (cN ha (cp h))
theorem M9{b:rv cy}{E:a9->a6->Prop}(a:b.hN<=16777216)(h:∀t k,E (.d3 b t) {s with hO:=k}):ch M A (mkBytes b) E L s:=by
 haveI hn:¬b.hN>F1:=by exact a4.ab ut (a5.to.ow (by assumption))
 show ch M A (if b.hN>F1 then .J3 "bytes:memory" else do return .d3 b (←fresh)) E L s;refine a4.ab (dx hn) (a7 (wpAny_fresh (cp (h _ _))))
end
section
variable{bZ:mS}{w:tq}{A:ec}{L:a9->a6->Prop}{s:a6}{a:e9}{b:am cy}
abbrev ib{v:a9}{r:rv cy}{E:a9->a6->Prop}:Prop:=∀(h:ch (dd bZ w) A.in1.in1 (l7.«bytes.__new__» ⟨[.fX "bytes",v],[]⟩) (λa s'=>match a with | .done (.ret I)=>(∃t k,I=.d3 r t/\s'={s with hO:=k}) |_=>uk) (λZ Z=>uk) s) (b:∀t k,E (.d3 r t) {s with hO:=k}),ch (dd bZ w) A (ng (.fX "bytes") [v]) E L s
theorem kh:∀{bZ w A L s v r E},@ib bZ w A L s v r E:=by
 refine λ{bZ w A L s v r E}=>a4.cK (q:=a4.wc @ib) ((?_:∀bZ w A L s v r E,@ib bZ w A L s v r E) _ _ _ _ _ _ _ _) (bZ,w,A,L,s,v,r,E);intro bZ w A L s v r E h d;refine callType_codes (Q₁:=λed a=>a.Fv ed "bytes" /\E ed a) F.bm_called (F.bm_typeCall _) F.entry_object_init ?_ λed a b=>?_
 ·apply codeAny_of_tree;show ch _ A.in1.in1 (do p3 "bytes.__new__" ⟨[.fX "bytes",v],[]⟩;J2 (.eu "bytes.__new__" ⟨[.fX "bytes",v],[]⟩)) _ _ s;refine a7 (gu (F.bm_newCall _) (cp ⟨F2 F.bm_plain _,codeAny_builtin F.bm_entry ?_⟩));rw[ec.I1 F.bm_plain _];refine wpAny_mono h (λe s' z=>?_) λZ Z z=>z.ef;cases e with
  |done f=>
   cases f<;>first |exact z.ef |skip
   obtain⟨t,k,rfl,rfl⟩:=z;exact⟨a8.W.uj _ _ _,d t k⟩
  |J2 c=>exact z.ef
 ·exact a4.ix b.1 (F.args_object_init_2 ed _) (object_init_meets F.bm_called.init.eh F.bm_called.made (by decide) bZ w A.in1 _ a ⟨b.1,rfl,b.2⟩)
theorem bu{α:Type}{M:z3}{c:ct}{t e:xE α}{E:α->a6->Prop}(a:c=false)(h:ch M A e E L s):ch M A (if c=true then t else e) E L s:=by subst a;exact h
theorem gV{α:Type}{M:z3}{c:ct}{t e:xE α}{E:α->a6->Prop}(a:c=true)(h:ch M A t E L s):ch M A (if c=true then t else e) E L s:=by subst a;exact h
theorem H8{α:Type}{M:z3}{c:Prop} [Decidable c]{t e:xE α}{E:α->a6->Prop}(a:¬c)(h:ch M A e E L s):ch M A (if c then t else e) E L s:=(dx a)▸h
abbrev ja{n:b0}{t:Tok}{E:a9->a6->Prop}:Prop:=∀(h0:0<=n) (h1:n<=1000000) (a:∀t k,E (.d3 (am.f7 n.fo 0).eb t) {s with hO:=k}),ch (dd bZ w) A (ng (.fX "bytes") [.bn n t]) E L s
theorem xe:∀{bZ w A L s n t E},@ja bZ w A L s n t E:=by refine λ{bZ w A L s n t E}=>a4.cK (q:=a4.wc @ja) ((?_:∀bZ w A L s n t E,@ja bZ w A L s n t E) _ _ _ _ _ _ _ _) (bZ,w,A,L,s,n,t,E);intro bZ w A L s n t E h0 h1 b;refine kh ?_ b;skip;refine a7 (gu rfl ?_);apply bu rfl;refine a7 (gu F.bm_sub ?_);refine bu rfl (a7 (gu (F.bm_bind _) ?_));refine a7 (gu (a:=()) rfl ?_);refine a7 (gu (a:=()) rfl ?_);refine bu rfl (a7 (f3 (LD s n t) qq ?_));refine a7 (gu rfl ?_);refine bu rfl (a7 (f3 (LD s n t) F.LE.eh ?_));apply bu rfl;refine a7 (Js (gu rfl ?_));refine bu (by have:=fits h0 (show n<4611686018427387904 by exact b0.fp (by assumption) (by decide));exact a4.ab this rfl) ?_;refine H8 (b0.to.ow h0) (H8 (b0.to.ow (b0.bb h1 (by decide))) ?_);refine bu (KBy.tooLong_not (b0.toNat_le.ow (b0.bb (by assumption) (by decide)))) ?_;refine a7 (Lv (a7 (M9 (by simp;exact b0.bb (by assumption) (by decide)) λt k=>?_)));exact cp (a4.gZ t k (by rfl) rfl)
abbrev gy{t:Tok}{E:a9->a6->Prop}:Prop:=∀(a:b.ah<=1000000) (c:∀t k,E (.d3 b.eb t) {s with hO:=k}),ch (dd bZ w) A (ng (.fX "bytes") [.d3 b.eb t]) E L s
theorem sU:∀{bZ w A L s b t E},@gy bZ w A L s b t E:=by refine λ{bZ w A L s b t E}=>a4.cK (q:=a4.wc @gy) ((?_:∀bZ w A L s b t E,@gy bZ w A L s b t E) _ _ _ _ _ _ _ _) (bZ,w,A,L,s,b,t,E);intro bZ w A L s b t E d c;refine kh ?_ c;refine a7 (gu rfl ?_);refine bu rfl (a7 (gu F.bm_sub ?_));refine bu rfl (a7 (gu (F.bm_bind _) ?_));refine a7 (gu (a:=()) rfl ?_);refine a7 (gu (a:=()) rfl ?_);refine bu rfl (a7 (f3 (a8.W.uj s _ t) ua ?_));refine a7 (Lv ?_);refine a7 (gu rfl ?_);exact gV (by decide) (cp (a4.gZ t _ rfl rfl))
abbrev kj{E:a9->a6->Prop}:Prop:=∀(ha:s.bh.ck a=ap (cE b)) (c:b.ah<=1000000) (d:∀t k,E (.d3 b.eb t) {s with hO:=k}),ch (dd bZ w) A (ng (.fX "bytes") [.bs a]) E L s
theorem AF:∀{bZ w A L s a b E},@kj bZ w A L s a b E:=by refine λ{bZ w A L s a b E}=>a4.cK (q:=a4.wc @kj) ((?_:∀bZ w A L s a b E,@kj bZ w A L s a b E) _ _ _ _ _ _ _ _) (bZ,w,A,L,s,a,b,E);intro bZ w A L s a b E ha e d;refine kh ?_ d;haveI c:=qI.ty ha;refine a7 (gu rfl ?_);refine bu rfl (a7 (gu F.bm_sub ?_));refine bu rfl (a7 (gu (F.bm_bind _) ?_));refine a7 (gu (a:=()) rfl ?_);refine a7 (gu (a:=()) rfl ?_);refine bu rfl (a7 (f3 c sg ?_));refine a7 (a7 ?_);refine a7 (wpAny_load ha ?_);refine cp (cp (bu rfl ?_));refine a7 (f3 c sf ?_);refine gV rfl (a7 (pQ ha ?_));refine a7 (Lv (a7 (M9 (by simp;exact a5.bb (by assumption) a4.av) λt k=>?_)));exact cp (a4.gZ t k rfl rfl)
end
end Tactic
namespace Internal
open Tactic PySem.Builtin
section
variable{bZ:mS}{w:tq}{A:ec}{L:a9->a6->Prop}{s:a6}{a:e9}{b:am cy}
abbrev jd{v:a9}{c:am cy}{R:r3->a6->Prop}:Prop:=∀(hg:A.Iz=ap []) (ha:s.bh.ck a=ap (cE b)) (d:(∃t,v=.d3 c.eb t)\/(∃x,v=.bs x/\s.bh.ck x=ap (cE c))) (e:b.ah+c.ah<=1000000) (h:∀h',h'.ck a=ap (cE (b++c))->d4.nT a s.bh h'->R (.ok (.ret .bk)) {s with bh:=h'}),az (dd bZ w) A (.ng (.eu "bytearray.extend") ⟨[.bs a,v],[]⟩) R s
theorem pS:∀{bZ w A s a b v c R},@jd bZ w A s a b v c R:=by
 refine λ{bZ w A s a b v c R}=>a4.cK (q:=a4.nk @jd) ((?_:∀bZ w A s a b v c R,@jd bZ w A s a b v c R) _ _ _ _ _ _ _ _ _) (bZ,w,A,s,a,b,v,c,R);intro bZ w A s a b v c R hg ha e d h;apply qf BA.iH (qI.ty ha) (BA.tf _ _) BA.qU (by decide+kernel);have buf:∀E:bS (rv cy×bS a9)->a6->Prop,E (ap (c.eb,bk)) s->a8.ch (dd bZ w) A.in1 (y3.takeBufferQuiet? "bytearray.extend" v 0) E (λZ Z=>uk) s:=by
  intro E q;refine a8.a7 (a8.Js ?_);unfold y3.takeBuffer?;clear h d ha hg R;rcases e with⟨t,rfl⟩ |⟨x,rfl,hx⟩
  ·refine a4.ab (KBy.special_eq KBy.Ce) (a4.ab KBy.own_buffer ?_);refine a8.a7 (a8.cp (a8.a7 (a8.cp (a8.a7 (a8.cp ?_)))));exact a8.a7 (a8.gu KBy.buffer_eq (a8.cp (a8.cp q)))
  ·have f:=qI.ty hx;refine a8.a7 (a8.f3 f BA.Ce (a8.a7 (jC f ?_)));show a8.ch _ _ (HL (.bs x) "__buffer__" >>=_) _ _ _;refine a8.a7 (a8.f3 f BA.Ce ?_);exact a8.a7 (pQ hx (a8.cp (a8.cp q)))
 have g:∀E:bS a9->a6->Prop,(∀id,E (ap (.eu id)) s)->a8.ch (dd bZ w) A.in1 (HL v "__buffer__") E (λZ Z=>uk) s:=by
  intro E q;clear buf h d ha hg R;rcases e with⟨t,rfl⟩ |⟨x,rfl,hx⟩
  ·exact a8.f3 (a8.W.uj _ _ _) KBy.Ce (q _)
  ·exact a8.f3 (qI.ty hx) BA.Ce (q _)
 show ch _ _ (HL v "__buffer__" >>=_) _ _ _;refine aa (aw (cl (g _ λid=>?_)) (λZ Z z=>z) λZ Z z=>z.ef);refine eV rfl (aa (cI ?_));refine aa (cl (cN ha ?_));refine aa (aw (cl (buf _ (eV rfl ?_))) (λZ Z z=>z) λZ Z z=>z.ef);clear id g buf e v;by_cases q:c=[]
 ·clear hg;subst q;show ch _ _ (y3.write (.bs a) (λx=>x++ #[])>>=_) _ _ _;exact aa (cl (e_ ha (by simp[ut];simp at d;exact a5.bb (by assumption) a4.av) λh' z y=>af (h h' (by simpa using z) y)))
 ·refine eV (by clear h d ha hg R;cases c;exact kk rfl q;rfl) ?_;refine aa (Bg hg ha ?_);exact aa (cl (e_ ha (by simp[ut];exact a5.bb (by assumption) a4.av) λh' z y=>af (h h' (by simpa using z) y)))
theorem cW{o:Do}{h h':d4}(y:d4.nT h.kq.hN (h.o4 o) h'):∀b x,h.ck b=ap x->h'.ck b=ap x:=λb x e=>
 (y.2 b (a5.sK (d4.JL e))).trans (d4.e7 _ e)
abbrev A0(R:r3->a6->Prop)(s:a6)(b:am cy):Prop:=∀h',h'.ck s.bh.kq.hN=ap (cE b)->(∀b x,s.bh.ck b=ap x->h'.ck b=ap x)->R (.ok (.ret (.bs s.bh.kq.hN))) {s with bh:=h'}
theorem AQ{R:r3->a6->Prop}(hg:A.Iz=ap [])(h:A0 R s []):az (dd bZ w) A (.ng (.fX "bytearray") ⟨[],[]⟩) R s:=
 AP BA.we BA.yR BA.uX (H7 hg (d4.m8 _ rfl) λh' z y=>h h' z (cW y))
theorem sX{c:am cy}{t:Tok}{R:r3->a6->Prop}(hg:A.Iz=ap [])(h1:c.ah<=1000000)(h:A0 R s c):az (dd bZ w) A (.ng (.fX "bytearray") ⟨[.d3 c.eb t],[]⟩) R s:=
 AP (BA.wd _) (BA.yQ _) (λa=>BA.uW a _) (uh hg (d4.m8 _ rfl) (a5.bb (by assumption) a4.av) λh' z y=>h h' z (cW y))
end
end Internal
end
section
namespace Internal
open Tactic PySem.Builtin
theorem rk:r4 (.fX "bytes") "__int__" =h8 bk:=by rw[f9,ek];kernel_rfl
theorem ot:r4 (.fX "bytes") "__float__" =h8 bk:=by rw[f9,ek];kernel_rfl
theorem rj:K3 (.fX "bytes") (.fX "bytearray")=h8 false:=by rw[pq];kernel_rfl
theorem lh:K3 (.fX "bytes") (.fX "complex")=h8 false:=by rw[pq];kernel_rfl
section
variable{bZ:mS}{w:tq}{A:ec}{L:a9->a6->Prop}{s:a6}{a:e9}{b:am cy}
theorem BB{c b:am cy}{x z:a5}(h1:x<=z)(h2:z<=b.ah):(b.eb.extract 0 x++c.eb++b.eb.extract z b.eb.hN).q6=b.m0 x++c++b.zt z:=by simp;exact ab (am.na (by simp)) rfl
abbrev iJ{sl:e9}{l I:a9}{lo hi:bS a5}{c:am cy}{t:Tok}{E:y5->a6->Prop}:Prop:=∀(hg:A.Iz=ap []) (ha:s.bh.ck a=ap (cE b)) (hs:s.bh.K5 sl l I .bk) (d:IsPart l (cP lo)) (e:IsPart I (cP hi)) (q1:lo.ww 0<=hi.ww b.ah) (q2:hi.ww b.ah<=b.ah) (f:c.ah=hi.ww b.ah - lo.ww 0) (g:b.ah<=1000000) (h:∀h',h'.ck a=ap (cE (b.m0 (lo.ww 0)++c++b.zt (hi.ww b.ah)))->(∀b x,b≠a->s.bh.ck b=ap x->h'.ck b=ap x)->E () {s with bh:=h'}),ch (dd bZ w) A (setItem (.bs a) (.bs sl) (.d3 c.eb t)) E L s
theorem wx:∀{bZ w A L s a b sl l I lo hi c t E},@iJ bZ w A L s a b sl l I lo hi c t E:=by
 refine λ{bZ w A L s a b sl l I lo hi c t E}=>cK (q:=rM @iJ) ((?_:∀bZ w A L s a b sl l I lo hi c t E,@iJ bZ w A L s a b sl l I lo hi c t E) _ _ _ _ _ _ _ _ _ _ _ _ _ _ _) (bZ,w,A,L,s,a,b,sl,l,I,lo,hi,c,t,E);intro bZ w A L s a b sl l I lo hi c t E hg ha hs d m q1 q2 g f h;haveI i:=qI.ty ha;refine lI (id hs) λo p r hd=>?_;haveI u:s.Fv (.bs sl) "slice" :=aR o p r;haveI j:∀s:a6,s.Fv (.d3 c.eb t) "bytes" :=λs=>a8.W.uj s _ _;apply ak;refine aa (cl (wpAny_sequenceKey i (by decide) (aa ?_)));refine aa (cl (a8.f3 i BA.dz.eh ?_));refine ak (aa (aG (BA.dz.tb _) (aa (aT (qf BA.dz i (BA.lz _ _ _) BA.jK (by decide+kernel) ?_)))));apply aa;refine aa (cl (a8.f3 u slice_no_index ?_));refine eV rfl (af ?_);refine aa (cl (a8.wpAny_typeOf u (bw (by decide) ?_)));refine aa (cl (parts hs d m ?_));apply bw rfl;refine aa (cl (a8.Bc (j _) rj (eV rfl ?_)));haveI k:∀(n:h9) (E:ct->a6->Prop) (L:a9->a6->Prop),r4 (.fX "bytes") n=h8 bk->E false s->ch (dd bZ w) A.in1 (do return(←HL (.d3 c.eb t) n).z_) E L s:=λn E L d q=>aa (cl (a8.f3 (j _) d (af q)));apply aa;refine aa (k _ _ _ BA.i_ ?_);refine aa (k _ _ _ rk (aa (k _ _ _ ot ?_)));refine cl (a8.Bc (j _) lh ?_);refine aa (aG rfl ?_);refine bw rfl (aa (cI ?_));refine aa (aT (sX hg (g▸a5.bb (a5.sub_le _ _) (a5.bb q2 f)) λh1 v k1=>?_));obtain⟨y,z,B,C⟩:({s with bh:=h1}:a6).bh.K5 sl l I .bk:=mM o (k1 _ _ p) r hd;haveI D:({s with bh:=h1}:a6).bh.K5 sl l I .bk:=mM y z B C;refine aa (ak (cl (parts D d m ?_)));refine aa (cl (cN v (aa (cl (cN (k1 _ _ ha) ?_)))));refine aa (aG (sliceIndices_raw _ _ bk _ (λe=>nomatch e)) ?_);refine ab ((show b.eb.hN=b.ah by simp)) ?_;rw[bounds];rw[a5.ux (a5.bb q1 q2),a5.ux q2];haveI F:=b0.max_eq_right (b0.sp.ow q1);refine eV rfl ?_;refine aa (cI ?_);rw[F];apply bw
 ·rw[bne_eq_false_iff_eq,am.lb,g,b0.ofNat_sub q1]
 refine aa (cl (e_ (k1 _ _ ha) ?_ λh2 G H=>?_))
 ·simp[ut];exact a5.bb (a5.G5 (a5.min_le_right _ _) (a5.G5 (g▸a5.bb (a5.sub_le _ _) q2) (a5.sub_le _ _))) (a5.bb (a5.G5 f (a5.G5 f f)) av)
 refine af (af (af (h h2 ?_ ?_)))
 ·apply(G).trans;rw[b0.toNat_natCast,b0.toNat_natCast];exact ab (BB q1 q2) rfl
 ·intro x ox J K;exact(H.2 x J).trans (k1 _ _ K)
end
end Internal
end
section
namespace Tactic
open PySem.Builtin
def tw(b:am cy)(vs:am a9):Prop:=vs.ah=b.ah/\∀(j:a5) (c:cy),b[j]?=ap c->∃t,vs[j]?=ap (.bn c.fo t)
section
variable{bZ:mS}{w:tq}{A:ec}{L:a9->a6->Prop}{s:a6}
abbrev Ba{us:am a9}{b:am cy}{a:rv a9}:Prop:=∀(h:ItemsOf (λi v=>if i<us.eb.hN then us.eb[i]?=ap v else(∃c I,b.eb[i - us.eb.hN]?=ap c/\v=.bn (c.fo:b0) I)) a (us.eb.hN+b.eb.hN)),∃vs,a=(us++vs).eb/\tw b vs
abbrev B9{b:am cy}{t:Tok}{E:a9->a6->Prop}:Prop:=∀(hh:A.z4=bk) (hn:b.ah<=1000000) (c:∀h' tk vs a,(∀b o,s.bh.ck b=ap o->h'.ck b=ap o)->h'.ck s.bh.kq.hN=ap (a4.b7 vs a)->tw b vs->E (.bs s.bh.kq.hN) {s with bh:=h',hO:=tk}),ch (dd bZ w) A (ng (.fX "list") [.d3 b.eb t]) E L s
end
section
variable{bZ:mS}{w:tq}{A:ec}{L:a9->a6->Prop}{s:a6}{K:Frag}{C x y:e9}{ox oy:Do}
theorem AJ{T:a9}{wQ:h9}{id:z8}{y6:a9}{ci:am a9}{M:z3}{E:bS a9->a6->Prop}(b:r5 M s.bh (HL y6 wQ) (ap (.eu id)))(hb:bindSpecial (.eu id) y6=h8 (.eu id,[y6]))
  (c:a8.ch M A (ng (.eu id) (y6::ci)) (λv s'=>E (ap v) s') L s):a8.ch M A (callSpecialIfBound? y6 wQ ci) E L s:=by
 refine IR (a7 ?_);refine a7 (b.here ?_);dsimp only;rw[hb];have a:ch M A (ng (.eu id) ([y6] ++ci)>>=λv=>h8 (ap v)) E L s:=
  a7 (wpAny_mono c (λv s' h'=>cp h') λZ Z h'=>h')
 refine a7 (wpAny_askSetting (wpAny_ite_split (λZ=>?_) λZ=>?_))
 ·exact a7 (cp (cp a))
 ·exact wpAny_tryCatch (a7 (cp (cp a)))
structure eM(K:Frag)(C x y:e9)(s:a6):Prop where
 dW:K.In s.bh
 ne:x≠y
 x:∃o,s.bh.ck x=ap o/\o.mm=.bs C
 y:∃o,s.bh.ck y=ap o/\o.mm=.bs C
 eq:H5 K (.bs C) "__eq__" =ap (ap (.eu "object.__eq__"))
 Kj:mroIn K C (.fX "object")=ap true
theorem eM.symm(Y:eM K C x y s):eM K C y x s:=⟨Y.dW,Ne.symm Y.ne,Y.y,Y.x,Y.eq,Y.Kj⟩
theorem eM.typ(Y:eM K C x y s){M:z3}:r5 M s.bh (typeOf (.bs x)) (.bs C):=by refine a4.ar Y.x λo e c=>?_;have:=(r5.ld (M:=M) (part:=bk) e).Ch (f:=λo=>h8 o.mm) (r5.now);replace this:=c▸this;exact this
theorem eM.Hp(Y:eM K C x y s){E:bS a9->a6->Prop}(q:E bk s):ch (dd bZ w) A (tryCompare (.bs x) "__eq__" (.bs y)) E L s:=by
 haveI a:r5 (dd bZ w) s.bh (HL (.bs x) "__eq__") (ap (.eu "object.__eq__")):=Y.typ.Ch (looks_findIn Y.dW Y.eq);haveI is:r5 (dd bZ w) s.bh (isInstance (.bs x) (.fX "object")) true:=Y.typ.Ch (looks_mroIn Y.dW Y.Kj);refine a4.ar Y.x λox b c=>a4.ar Y.y λoy d f=>?_;refine a7 (AJ (T:=.bk) a ?_ ?_)
 ·exact F.cmp_object.eq.tb _
 ·exact wpAny_call (D8 F.cmp_object.eq.rE F.cmpEntry_eq (check_slot F.cmpKind_eq F.cmpSplit_eq is (F.cmpArgs_eq _ _) (objEq_entry_other Y.ne b d (a4.ab c (λe=>nomatch e)) (cp q))))
abbrev eM.tP{E:a9->a6->Prop}:Prop:=∀(Y:eM K C x y s) (a:A.FD<cLine) (q:E (.gg false) s),ch (dd bZ w) A (richCompare .Eq (.bs x) (.bs y)) E L s
theorem eM.K9:∀{bZ w A L s K C x y E},@eM.tP bZ w A L s K C x y E:=by refine λ{bZ w A L s K C x y E}=>a4.cK (q:=a4.kD @eM.tP) ((?_:∀bZ w A L s K C x y E,@eM.tP bZ w A L s K C x y E) _ _ _ _ _ _ _ _ _ _) (bZ,w,A,L,s,K,C,x,y,E);intro bZ w A L s K C x y E Y a q;refine IR (a7 (wpAny_cRoomFor a ?_));refine a7 (Y.typ.here (a7 (Y.symm.typ.here ?_)));refine bu (by simp) (a7 (cp ?_));refine bu rfl (a7 (Y.Hp ?_));refine gV rfl (a7 (Y.symm.Hp ?_));refine a4.aD λg b=>a4.ar Y.x λox c d=>?_;refine a4.ar Y.y λoy f h=>?_;apply b;refine a7 (Lv ?_);exact a7 (wpAny_isSame_ref_other Y.ne c f (a4.ab d (λe=>nomatch e)) (cp q))
theorem eM.Jh(Y:eM K C x y s)(a:A.FD<cLine){E:ct->a6->Prop}(q:E false s):ch (dd bZ w) A (eqBool (.bs x) (.bs y)) E L s:=by refine IR (wpAny_ite_split (λb=>kk (by have:=cx b;injection this) Y.ne) (λZ=>?_));exact a7 (Y.K9 a (wpAny_truthy_bool q))
abbrev gc{l:e9}{us:am a9}{n:a5}{x:a9}{R:r3->a6->Prop}:Prop:=∀(b:s.bh.ck l=ap (a4.b7 us n)) (c:us.ah<=1000000) (j:a5) (d:us[j]?=ap x) (e:∀(m:a5) (v:a9),m<j->us[m]?=ap v->SeqAt.EqAt A.in1 s v x false) (h:∀h' a,d4.nT l s.bh h'->h'.ck l=ap (a4.b7 (us.F5 j) a)->R (.ok (.ret .bk)) {s with bh:=h'}) (k:a5),∀i:a5,j - i=k->i<=j->codeAny (dd bZ w) A (.eu "list.remove.loop" ⟨[.bs l,x,wv i],[]⟩) R s
theorem remove_loop:∀{bZ w A s l us n x R},@gc bZ w A s l us n x R:=by
 refine λ{bZ w A s l us n x R}=>a4.cK (q:=a4.nk @gc) ((?_:∀bZ w A s l us n x R,@gc bZ w A s l us n x R) _ _ _ _ _ _ _ _ _) (bZ,w,A,s,l,us,n,x,R);intro bZ w A s l us n x R c o j d p h k;have m:∀i:a5,i<=j->(∀v,us[i]?=ap v->ch (dd bZ w) A.in1 (eqBool v x>>=λb=>if b then(l7.am.listUpdate (.bs l) (·.Hw i)>>=λZ=>ret .bk)else J2 (.eu "list.remove.loop" ⟨[.bs l,x,wv ((i:b0)+1)],[]⟩))
   (λr s'=>match r with | .done f=>R (.ok f) s' | .J2 c'=>c'.quiet=true/\codeAny (dd bZ w) A c' R s') (λe s'=>R (.B3 e) s') s)->codeAny (dd bZ w) A (.eu "list.remove.loop" ⟨[.bs l,x,wv i],[]⟩) R s:=by
  intro i hi t;refine codeAny_builtin MeetsSeq.entry_remove_loop (a4.ab (ec.I1 MeetsSeq.plain_remove_loop _) ?_);haveI B:=(am.hv.mp d).1;haveI u:us.eb[((i:a5):b0).fo]?=ap us[i]:=by simp
  refine a7 (a7 (wpAny_seqItems c rfl (cp (a4.ab u ?_))));exact t _ (am.wE _)
 induction k with
 |zero=>
  intro i y g;obtain rfl:i=j:=by exact a5.le_antisymm (by assumption) (a5.le_of_sub_eq_zero (by assumption))
  refine m i g λv a=>?_;replace a:=d▸a;cases a;refine a7 (SeqAt.EqAt.mx _ _ _ _ _ (gV rfl ?_));refine a7 (wpAny_updateSeq c rfl ?_ (by simp[F1];exact a5.bb (by assumption) a4.av) (by delta rv.Hw;rw[dif_pos (show i<us.eb.hN from(am.hv.mp d).1),rv.size_eraseIdx];exact a5.bb (a5.sub_le _ _) (a5.bb o a4.av)));refine cp (h _ (if(us.eb.Hw i).hN==us.eb.hN then n else n+1) (d4.nT.G0 ..) (a4.ab (d4.mv _ c rfl) ?_));simp[Do.mapSeq]
 |Fy k z=>
  intro i y g;refine m i g λv a=>?_;refine a7 ((p i v (a5.lt_of_sub_pos (a5.x3 (a5.succ_pos _) (Eq.symm (by assumption)))) a) _ _ _ _ ?_);apply bu rfl;exact cp ⟨F2 MeetsSeq.plain_remove_loop _,by have:=z (i+1) (b5 a5.pred (by assumption)) (a5.lt_of_sub_pos (a5.x3 (a5.succ_pos _) (Eq.symm (by assumption))));rwa [show((i+1:a5):b0)=(i:b0)+1 by exact b0.natCast_succ _]at this⟩
theorem sP{l:e9}{us:am a9}{n:a5}{x:a9}{E:a9->a6->Prop}(a:s.bh.ck l=ap (a4.b7 us n))(b:us.ah<=1000000)(j:a5)(c:us[j]?=ap x)
  (d:∀(m:a5) (v:a9),m<j->us[m]?=ap v->SeqAt.EqAt A.in1 s v x false)
  (h:∀h' e,d4.nT l s.bh h'->h'.ck l=ap (a4.b7 (us.F5 j) e)->E .bk {s with bh:=h'}):ch (dd bZ w) A (ng (.eu "list.remove") [.bs l,x]) E L s:=by haveI f:s.Fv (.bs l) "list" :=a4.aR _ a rfl;refine wpAny_call (D8 F.slot_list_remove.rE F.entry_list_remove (F.slot_list_remove.check _ _ _ _ _ _ _ _ f (F.args_list_remove_2 _ _) ?_));exact cp ⟨F2 MeetsSeq.plain_remove_loop _,remove_loop a b j c d h _ 0 rfl (a5.ri _)⟩
end
end Tactic
end
section
open PySem.SeqAt
namespace Internal
def bJ(lp:ct)(n:a5)(ci:am V)(d:H)(r:R V):Prop:=keeperOf (sW n)=h8 .machine/\∀A P s us,Rm A->(lp=true->A.z4=bk)->St G.D P d s->aA P d s.bh ci us->aC G.D bk A VS P d s r (a8.ng (sW n) us [])
section
variable{lp:ct}{Q:a5}{vs ws:am V}{es:am X}{P:Ph}{d U:H}{s:a6}{v w:V}{t k t' k' n ce:a5}{l m:am V}{b:am cy}{x y:b0}{A:ec}{r:R V}{E:a9->a6->Prop}{L:a9->a6->Prop}
theorem EX.bi(b:EL lp Q vs d es (.ok ws U))(hb:bJ lp n ws U r):EX lp Q vs d (.bi n es) r:=λC e h A u P s a=>by
 refine ar (aj h) λp c q=>?_;clear h;subst c;haveI z:=b C p.2.1 (ai q);exact dY (ao q) a (λI e=>e) (bE (z.1 _ _) (cB hb.1) (z.2 A u P s p.2.2 a) λus s' P' S' X r=>hb.2 A P' s' us a.ac.room a.ac.hd S' r)
theorem St.Cp(S:St G.D P d s){h':d4}(a:∀b x,s.bh.ck b=ap x->h'.ck b=ap x){tk:a5}{I:a9}(r:aF P d h' v I)(k:dM G.D bk A VS P d s (.ok v d) E L):E I {s with bh:=h',hO:=tk}:=
 haveI m:=S.h.hA a
 k _ {s with bh:=h',hO:=tk} P ⟨m.1,S.r⟩ m.2 r
theorem St.Gj(S:St G.D P d s){o:a4.O}{h':d4}{a:e9}(e:∀b x,s.bh.ck b=ap x->h'.ck b=ap x)(c:s.bh.ck a=bk)(ha:∃x,h'.ck a=ap x)
  (hn:∀P',(P':Ph).al t (d.gz t)=a->(∀{v I},aF P d s.bh v I->aF P' (d.hM t o) h' v I)->jx G.D P' (d.hM t o) h' t (d.gz t) o) {tk:a5} (k:dM G.D bk A VS P d s (.ok (.bs t (d.gz t)) (d.hM t o)) E L):E (.bs a) {s with bh:=h',hO:=tk}:=by haveI z:=S.h.alloc e c c ha ha (λg=>hn _ ey g);exact k _ {s with bh:=h',hO:=tk} _ ⟨z.1,S.r⟩ z.2.1 z.2.2
theorem aA.one{h:d4}{us:am a9}(r:aA P d h [v] us):∃I,us=[I]/\aF P d h v I:=by refine dQ r λI ws a b c=>?_;clear r;subst a;subst c;exact aR I rfl b
abbrev aA.xW{h:d4}{us:am a9}:Prop:=∀(r:aA P d h [v,w] us),∃I a,us=[I,a]/\aF P d h v I/\aF P d h w a
theorem aA.Io:∀{P d v w h us},@aA.xW P d v w h us:=by refine λ{P d v w h us}=>cK (q:=tH @aA.xW) ((?_:∀P d v w h us,@aA.xW P d v w h us) _ _ _ _ _ _) (P,d,v,w,h,us);intro P d v w h us r;obtain⟨I,ws,rfl,a,b,_,rfl,c,rfl⟩:=r;exact eN I b rfl a c
theorem xG(a:keeperOf (sW n)=h8 .machine)(h:∀A P s I E L,Rm A->(lp=true->A.z4=bk)->St G.D P d s->aF P d s.bh v I->dM G.D bk A VS P d s r E L->ch (dd G.D.bZ G.D.w) A (a8.ng (sW n) [I] []) E L s):bJ lp n [v] d r:=
 ⟨a,λA P s us b hd S q E L k=>by refine ar q.one λI c q2=>?_;clear q a;subst c;exact h A P s I E L b hd S q2 k⟩
theorem St.bn(S:St G.D P d s){tk a:Tok}(k:dM G.D bk A VS P d s (.ok (.bn x) d) E L):E (.bn x tk) {s with hO:=a}:=S.at (v:=.bn x) ⟨_,rfl⟩ k
theorem St.Mf(S:St G.D P d s){tk a:Tok}(k:dM G.D bk A VS P d s (.ok (.d3 b) d) E L):E (.d3 b.eb tk) {s with hO:=a}:=S.at (v:=.d3 b) ⟨_,rfl⟩ k
theorem y7(l:am a9):((l.eb.hN:a5):b0)=(l.ah:b0):=b5 b0.kP am.lb
theorem bJ.hG(q:b.ah<=aQ):bJ lp 0 [.d3 b] d (.ok (.bn b.ah) d):=xG rfl λA P s I E L a hd S r k=>by
 obtain⟨t,rfl⟩:=r;exact cl (a8.W.len_bytes (by refine ab am.lb ?_;exact a5.bb (by assumption) av) (S.bn k))
theorem bJ.jq(b:d.ed t k=ap (.dG l))(q:l.ah<=aQ):bJ lp 0 [.bs t k] d (.ok (.bn l.ah) d):=xG rfl λA P s I E L e hd S r k=>by
 obtain rfl:I=_:=r.1;refine aO (S.dG b) λws f c a=>cl (a8.Calls.call_len_list ⟨_,c,rfl,_,rfl⟩ (by refine ab am.lb (ab a.ah.symm ?_);exact b0.hB.ow (a5.fp (by assumption) av)) ?_);rw[y7,←a.ah];exact S.bn k
theorem bJ.y7(a:d.ed t k=ap (.aB b))(q:b.ah<=aQ):bJ lp 0 [.bs t k] d (.ok (.bn b.ah) d):=xG rfl λA P s I E L c hd S r k=>by
 obtain rfl:I=_:=r.1;exact cl (qI.Fo (S.aB a) q λt tk=>S.bn k)
theorem bJ.min:bJ true 1 [.bn x,.bn y] d (.ok (.bn (if y<x then y else x)) d):=⟨rfl,λA P s us b hd S r E L k=>by
 obtain⟨I,c,rfl,⟨t,rfl⟩,⟨t',rfl⟩⟩:=r.Io;refine cl (min_two_ints (hd rfl) λh' tk a=>S.Cp a ?_ k)
 split<;>exact⟨_,rfl⟩⟩
theorem bJ.max:bJ true 2 [.bn x,.bn y] d (.ok (.bn (if x<y then y else x)) d):=⟨rfl,λA P s us b hd S r E L k=>by
 obtain⟨I,c,rfl,⟨t,rfl⟩,⟨t',rfl⟩⟩:=r.Io;refine cl (max_two_ints (hd rfl) λh' tk a=>S.Cp a ?_ k)
 split<;>exact⟨_,rfl⟩⟩
theorem bJ.uQ(q:n<=aQ):bJ lp 3 [.bn n] d (.ok (.d3 (am.f7 n 0)) d):=xG rfl λA P s I E L a hd S r k=>by
 obtain⟨t,rfl⟩:=r;exact cl (qI.xe (b0.dv n) (b0.sp.ow q) λt tk=>S.Mf k)
theorem bJ.AG(q:b.ah<=aQ):bJ lp 3 [.d3 b] d (.ok (.d3 b) d):=xG rfl λA P s I E L a hd S r k=>by
 obtain⟨t,rfl⟩:=r;exact cl (qI.sU q λt tk=>S.Mf k)
theorem bJ.uR(a:d.ed t k=ap (.aB b))(q:b.ah<=aQ):bJ lp 3 [.bs t k] d (.ok (.d3 b) d):=xG rfl λA P s I E L c hd S r k=>by
 obtain rfl:I=_:=r.1;exact cl (qI.AF (S.aB a) q λt tk=>S.Mf k)
abbrev bI(c:cy):V:=.bn c.fo
theorem yE{h:d4}:∀{b:am cy} {us:am a9},aA P d h (b.hC bI) us->IntsAre us (b.hC λc=>(c.fo:b0)):=by
 intro a
 induction a with
 |iv=>
  intro us r;obtain rfl:us=[]:=r;exact .iv
 |d2 c b e=>
  intro us r;obtain⟨_,us,rfl,⟨t,rfl⟩,f⟩:=r;exact .d2 _ _ (e f)
theorem xf(b:am cy):byteArr (b.hC λc=>(c.fo:b0))=b.eb:=by
 unfold byteArr;refine ab am.map_map ?_
 congr 1
 exact(am.map_congr_left λc Z=>by simp).trans (am.map_id b)
theorem bJ.uP(a:d.ed t k=ap (.dG (b.hC bI)))(q:b.ah<=aQ):bJ true 3 [.bs t k] d (.ok (.d3 b) d):=xG rfl λA P s I E L j hd S r k=>by
 obtain rfl:I=_:=r.1;refine aO (S.dG a) λws l e f=>?_;haveI i:=yE f;refine cl (call_bytes_ints ⟨_,e,rfl,_,rfl⟩ i (λn hn=>?_) (by rw[i.ah,am.fz];exact a5.bb q av) (hd rfl) λh' t tk g=>?_)
 ·refine ar (am.JQ.mp hn) λc Z h=>?_;subst h;exact⟨b0.dv _,b0.hB.ow c.toNat_lt⟩
 ·rw[xf];exact S.Cp (v:=.d3 b) g ⟨t,rfl⟩ k
theorem St.M8(S:St G.D P d s)(k:dM G.D bk A VS P d s (.ok (.bs ce (d.gz ce)) (d.hM ce (.aB b))) E L):A0 (λr s'=>match r with | .ok (.ret v)=>E v s' | .ok _=>uk | .B3 e=>L e s') s b:=λh' g a=>
 S.Gj (o:=.aB b) a bT ⟨_,g⟩ (λP' e Z=>show h'.ck (P'.al _ _)=_ from e.symm▸g) k
theorem bJ.NL:bJ lp 4 [] d (.ok (.bs ce (d.gz ce)) (d.hM ce (.aB []))):=⟨rfl,λA P s us a hd S r E L k=>by
 obtain rfl:us=[]:=r;exact aT (AQ a.gd (S.M8 k))⟩
theorem bJ.Pz(q:b.ah<=aQ):bJ lp 4 [.d3 b] d (.ok (.bs ce (d.gz ce)) (d.hM ce (.aB b))):=xG rfl λA P s I E L a hd S r k=>by
 obtain⟨t,rfl⟩:=r;exact aT (sX a.gd q (S.M8 k))
theorem bJ.HN(c:d.ed t k=ap (.dG l))(q:l.ah<=aQ):bJ lp 5 [.bs t k] d (.ok (.bs ce (d.gz ce)) (d.hM ce (.dG l))):=xG rfl λA P s I E L m hd S r f=>by
 obtain rfl:I=_:=r.1;refine aO (S.dG c) λws n g a=>?_;exact cl (call_list_seq (P.al _ _) (.u0 rfl) g rfl rfl (λh' h i b=>S.Gj (o:=.dG l) i bT ⟨_,b⟩ (λP' e j=>gZ ws h (e.symm▸b) (a.hC j)) f) (ab am.lb (ab ((a.ah).symm) (a5.bb q av))))
theorem zf{h:d4}:∀{xs:am b0} {us:am a9},aA P d h (xs.hC .bn) us->IntsAre us xs:=by
 intro a
 induction a with
 |iv=>
  intro us r;obtain rfl:us=[]:=r;exact .iv
 |d2 c b e=>
  intro us r;obtain⟨_,us,rfl,⟨t,rfl⟩,f⟩:=r;exact .d2 _ _ (e f)
theorem bJ.sum{xs:am b0}(c:d.ed t k=ap (.dG (xs.hC .bn))):bJ true 6 [.bs t k] d (.ok (.bn xs.sum) d):=xG rfl λA P s I E L i hd S r k=>by
 obtain rfl:I=_:=r.1;refine aO (S.dG c) λws e f g=>?_;have a:=zf g;refine aN a.allInts.items λys b=>?_;haveI en:ys.q6.hC (·.1)=xs:=by rw[←nums_intItems];exact lG b a.numsOf
 refine cl (sum_intListG (hd rfl) (ab b.symm (⟨_,f,rfl,e,rfl⟩)) λh' tk t' h=>?_);rw[preSum_eq,am.na (by simp),en];exact S.Cp (v:=.bn _) h ⟨_,rfl⟩ k
end
def lF(lp:ct)(n t k:a5)(eG:H)(ci:am V)(d:H)(r:R V):Prop:=∃id x,z9 n=ap x/\(∀A P s pl (E:a9×am a9->a6->Prop) (L:a9->a6->Prop),St G.D P eG s->E (.eu id,[.bs (P.al t k)]) s->a8.ch (dd G.D.bZ G.D.w) A (getMethod (.bs (P.al t k)) x pl) E L s)/\
 ∀A P s us,Rm A->(lp=true->A.z4=bk)->St G.D P d s->aA P d s.bh ci us->aC G.D bk A VS P d s r (a8.ng (.eu id) (.bs (P.al t k)::us) [])
section
variable{lp:ct}{Q:a5}{vs ws:am V}{es:am X}{P:Ph}{d eG U ay:H}{s:a6}{v w:V}{t k t' k' n ce:a5}{l o0 m:am V}{b pi c:am cy}{x:X}{i:b0}{A:ec}{r:R V}{E:a9->a6->Prop}{L:a9->a6->Prop}
theorem EX.cm(b:EX lp Q vs d x (.ok (.bs t k) U))(c:EL lp Q vs U es (.ok ws ay))(f:lF lp n t k U ws ay r):EX lp Q vs d (.m x n es) r:=λC e h A u P s a=>by
 refine ar (aj h) λp g q=>?_;clear h;subst g;refine ar (aj q) λo z q=>ab z (ab (cx (ao q)) ?_);replace q:=ai q;haveI z:=c C p.2.1 (ai (ai (ai (ai q))));refine dQ f λid nm i c1 j=>vC (b C o.1 (ao (ai (ai (ai q)))) A u P s a) (ao q) (ao (ai q)) (kH (ai (ai (ai (ai q))))▸ra (ao (ai (ai q)))) (z.1 _ _) λs' P' S' l lv pl E L m=>ab (G.em _ _ i) ?_;exact cl (c1 A P' s' pl _ L S' (bE (z.1 _ _) (cB rfl) (z.2 A u P' s' p.2.2 (a.on S' l)) (λus v cS w y B=>(y.qE t k lv).2▸j A cS v us a.ac.room a.ac.hd w B) E L m))
theorem jm{T id:z8}{wQ:h9}{a:e9}{o:Do}(g:s.bh.ck a=ap o)(c:o.mm=.fX T)(dn:o.BT=bk)(d:PlainAttrs T)(sl:Slot T wQ id)(ty:typeOf (.eu id)=h8 (.fX "method_descriptor")){pl:xE ct}{E:a9×am a9->a6->Prop}{L:a9->a6->Prop}
  (q:E (.eu id,[.bs a]) s):a8.ch (dd G.D.bZ G.D.w) A (getMethod (.bs a) wQ pl) E L s:=
 getMethod_builtin (aR o g c) d sl ty (λb e=>a9.bs.zv e▸⟨o,g,dn⟩) q
theorem St.done(S:St G.D P d s){c o:a4.O}(a:d.ed t k=ap c){h':d4}(y:d4.nT (P.al t k) s.bh h')(g:∃x,h'.ck (P.al t k)=ap x)(hn:(∀{v I},aF P d s.bh v I->aF P (d.fC t k o) h' v I)->jx G.D P (d.fC t k o) h' t k o){tk:a5}
  (e:dM G.D bk A VS P d s (.ok .bk (d.fC t k o)) E L):E .bk {s with bh:=h',hO:=tk}:=by haveI b:=S.h.Ku a (S.h.ed _ _ _ a).2 y g λZ=>hn;exact e _ {s with bh:=h',hO:=tk} P ⟨b.1,S.r⟩ b.2 rfl
theorem lB{l:e9}{us:am a9}{n:a5}{x:a9}(a:s.bh.ck l=ap (b7 us n))(b:us.ah<=1000000)
  (h:∀h' c,h'.ck l=ap (b7 (us++[x]) c)->d4.nT l s.bh h'->E .bk {s with bh:=h'}):ch (dd G.D.bZ G.D.w) A (a8.ng (.eu "list.append") [.bs l,x] []) E L s:=by haveI d:s.bh.IsList l us.eb:=⟨_,a,rfl,n,rfl⟩;haveI sz:us.ah<=F1:=a5.bb b av;refine cl (E6 slot_list_append d.LG entry_list_append ?_ (args_list_append _ _));show a8.ch _ _ (updateSeq l (·.o4 x)>>=λZ=>ret .bk) _ _ s;refine a8.a7 (wpAny_updateSeq a rfl (a8.cp ⟨.bk,rfl,h _ (n+1) (ab (d4.mv _ a rfl) ?_) (d4.nT.G0 ..)⟩) (by simpa using sz) (by simpa using a5.ic sz));simp[Do.mapSeq]
theorem lF.append(h0:eG.ed t k=ap (.dG o0))(b:d.ed t k=ap (.dG l))(q:l.ah+1<=aQ):lF lp 0 t k eG [v] d (.ok .bk (d.fC t k (.dG (l++[v])))):=⟨"list.append",_,rfl,λA P s pl E L S a=>by
  refine aO (S.dG h0) λus n g Z=>?_;exact jm g rfl rfl F.plainAttrs_list F.slot_list_append F.type_list_append a,λA P s us i hd S r E L a=>by
  refine ar r.one λI e f=>?_;subst e;refine aO (S.dG b) λvs j h r'=>?_;exact lB h (by exact ab r'.ah.symm (a5.l6 (by assumption))) λh' p c y=>S.done (o:=.dG (l++[v])) b y ⟨_,c⟩ (λg=>(gZ _ _ c (aA.append (m:=[v]) ⟨I,[],rfl,g f,rfl⟩ (r'.hC g)))) a⟩
def Et(d:H)(t k:a5):Prop:=∃a fs,d.ed t k=ap (.qD (a::fs))
theorem EN(S:St G.D P d s){t k k':a5}(h1:Et d t k)(h2:Et d t k')(ne:k≠k'):qI.eM G.D.K (G.D.mm t) (P.al t k) (P.al t k') s:=by refine aD λl c=>f_ h1 λa fs e=>f_ h2 λb m f=>tE (S.qD e) λZ es n be Z g h Z=>?_;refine tE (S.qD f) λZ o p i Z q j Z=>?_;apply c;haveI C:=(G.ok S.lv).mm t a.1 (g _ (.sk _));exact⟨S.dW (G.ok S.lv),qo h j λz=>ne (GX.d9.zv z).2,⟨_,be.at_,rfl⟩,⟨_,i.at_,rfl⟩,C.eq,C.Kj⟩
theorem yn{su dL:am V}:∀{us:am a9},aA P d s.bh (su++ .bs t' k'::dL) us->(∀v∈su,∃k2,v=.bs t' k2/\k2≠k'/\Et d t' k2)->us[su.ah]?=ap (.bs (P.al t' k'))/\aA P d s.bh (su++dL) (us.F5 su.ah)/\
  ∀(m:a5) (v:a9),m<su.ah->us[m]?=ap v->∃k,v=.bs (P.al t' k)/\k≠k'/\Et d t' k:=by
 induction su with
 |iv=>
  intro us r Z;refine aD λo e=>?_;obtain⟨_,us,rfl,⟨rfl,_⟩,c⟩:=r;apply e;clear e;exact ix rfl c (λm v g=>kk g (a5.not_lt_zero m))
 |d2 a su h=>
  intro us r f;refine dQ r λI us p i c=>?_;clear r;subst p;haveI j:=(h c λv b=>f v (.sy _ b)).1;haveI l:=(h c λv b=>f v (.sy _ b)).2.1;haveI n:=(h c λv b=>f v (.sy _ b)).2.2;refine ix j ⟨I,_,rfl,i,l⟩ (λm v g b=>?_);clear l j c h dL;cases m with
  |zero=>
   refine aD λo e=>?_;refine lI (f a (.sk _)) λk2 q q1 q2=>?_;clear g n f su;subst q;apply e;clear e;exact mM k2 ((bS.ap.zv b).symm.trans i.1) q1 q2
  |Fy m=>exact n m v (a5.lt_of_succ_lt_succ g) b
theorem lF.remove{su dL:am V}(h0:eG.ed t k=ap (.dG o0))(c:d.ed t k=ap (.dG (su++ .bs t' k'::dL)))(a:∀v∈su,∃k2,v=.bs t' k2/\k2≠k'/\Et d t' k2)(hi:Et d t' k')(q:(su++ .bs t' k'::dL).ah<=aQ):lF lp 2 t k eG [.bs t' k'] d (.ok .bk (d.fC t k (.dG (su++dL)))):=⟨"list.remove",_,rfl,λA P s pl E L S b=>by
  refine aO (S.dG h0) λus n g Z=>?_;exact jm g rfl rfl F.plainAttrs_list F.slot_list_remove F.type_list_remove b,λA P s us f hd S r E L b=>by
  obtain⟨_,rfl,⟨rfl,_⟩⟩:=r.one;refine aO (S.dG c) λvs B h r'=>?_;haveI i:=(yn r' a).1;haveI j:=(yn r' a).2.1;haveI l:=(yn r' a).2.2;refine cl (qI.sP h (ab r'.ah.symm q) su.ah i (λm v p u=>?_) λh' C y e=>S.done (o:=.dG (su++dL)) c y ⟨_,e⟩ (λg=>gZ _ _ e (j.hC g)) b);refine lI (l m v p u) λk2 x ne z=>?_;subst x;exact λbZ w L E q=>(EN S z hi ne).Jh (a5.fp (a5.ic f.FD) av) q⟩
theorem lF.zL(h0:eG.ed t k=ap (.aB pi))(e:d.ed t k=ap (.aB b))(q:b.ah+c.ah<=aQ):lF lp 3 t k eG [.d3 c] d (.ok .bk (d.fC t k (.aB (b++c)))):=⟨"bytearray.extend",_,rfl,λA P s pl E L S a=>jm (S.aB h0) rfl rfl BA.rE BA.iH BA.mq a,λA P s us h hd S r E L a=>by
  obtain⟨_,rfl,⟨tk,rfl⟩⟩:=r.one;exact aT (pS h.gd (S.aB e) (.u0 ⟨_,rfl⟩) q λh' f y=>S.done (o:=.aB (b++c)) e y ⟨_,f⟩ (λg=>f) a)⟩
theorem lF.zM(h0:eG.ed t k=ap (.aB pi))(e:d.ed t k=ap (.aB b))(h1:d.ed t' k'=ap (.aB c))(q:b.ah+c.ah<=aQ):lF lp 3 t k eG [.bs t' k'] d (.ok .bk (d.fC t k (.aB (b++c)))):=⟨"bytearray.extend",_,rfl,λA P s pl E L S a=>jm (S.aB h0) rfl rfl BA.rE BA.iH BA.mq a,λA P s us h hd S r E L a=>by
  obtain⟨_,rfl,⟨rfl,_⟩⟩:=r.one;exact aT (pS h.gd (S.aB e) (.wl ⟨_,rfl,S.aB h1⟩) q λh' f y=>S.done (o:=.aB (b++c)) e y ⟨_,f⟩ (λg=>f) a)⟩
theorem zV{bZ:mS}{w:tq}{K:Type} [D6 K]{ms:KeyKind bZ w K}{Q:e9}{k:K}{key:a9}{a:am a9}{c:am (K×a9)}(d:ms.is k key=true)(hd:(Q==sysModules)=false)(b:s.bh.GY ms Q c)(e:a=[] \/∃x,a=[x])
  (h:E ((valueAt c k).ww (a.headD .bk)) {s with hO:=s.hO+1}):a8.ch (dd bZ w) A (a8.ng (.eu "dict.get") (.bs Q::key::a)) E L s:=by
 rcases e with rfl |⟨x,rfl⟩
 ·exact call_meetsIn F.slot_dict_get b.LG F.entry_dict_get (F.args_dict_get_2 _ _) (meets_dict_get ms Q d hd) (aR _ b.mapOf h)
 ·exact call_meetsIn F.slot_dict_get b.LG F.entry_dict_get (F.args_dict_get_3 _ _ _) (meets_dict_get_default ms Q d hd x) (aR _ b.mapOf h)
theorem pJ{o0:am (b0×V)}(h0:eG.ed t k=ap (.di o0)){pl:xE ct}{E:a9×am a9->a6->Prop}(S:St G.D P eG s)(a:E (.eu "dict.get",[.bs (P.al t k)]) s):a8.ch (dd G.D.bZ G.D.w) A (getMethod (.bs (P.al t k)) "get" pl) E L s:=by exact ar ((S.h.ed _ _ _ h0).1) λc Q Z=>getMethod_builtin Q.LG F.plainAttrs_dict F.slot_dict_get F.type_dict_get (λb e=>a9.bs.zv e▸(rL Q λob es d h1 h2 h3=>aR ob h1 h2.2.1)) a
theorem zw{l:am (b0×V)}(b:d.ed t k=ap (.di l)){x:b0}{tk:Tok}{a:am a9}(S:St G.D P d s)(c:a=[] \/∃x,a=[x])(lv:qE d t k)(rd:aF P d s.bh w (a.headD .bk)):aC G.D bk A VS P d s (.ok ((bY l x).ww w) d) (a8.ng (.eu "dict.get") (.bs (P.al t k)::.bn x tk::a) []):=λE L f=>by
 refine ar ((S.h.ed _ _ _ b).1) λi g h=>?_;haveI z:=h.val lR x;refine cl (zV (kO x tk) (S.tY lv) g c (S.at ?_ f));cases e:bY l x with
 |bk=>replace z:=e▸z;exact ab z rd
 |ap v=>replace z:=e▸z;exact ar z λI q q2=>ab q q2
theorem lF.zx{o0 l:am (b0×V)}{x:b0}(h0:eG.ed t k=ap (.di o0))(a:d.ed t k=ap (.di l)):lF lp 4 t k eG [.bn x] d (.ok ((bY l x).ww .bk) d):=⟨"dict.get",_,rfl,λA P s pl E L S b=>pJ h0 S b,λA P s us c hd S r=>by
  obtain⟨_,rfl,⟨tk,rfl⟩⟩:=r.one;exact zw a S (.u0 rfl) (by unfold qE;exact ab a rfl) rfl⟩
theorem lF.LP{o0 l:am (b0×V)}{x:b0}(h0:eG.ed t k=ap (.di o0))(a:d.ed t k=ap (.di l)):lF lp 4 t k eG [.bn x,w] d (.ok ((bY l x).ww w) d):=⟨"dict.get",_,rfl,λA P s pl E L S b=>pJ h0 S b,λA P s us e hd S r=>by
  obtain⟨_,f,rfl,⟨tk,rfl⟩,c⟩:=r.Io;exact zw a S (.wl ⟨_,rfl⟩) (by unfold qE;exact ab a rfl) c⟩
end
end Internal
end
section
open PySem.SeqAt
namespace Internal
open Tactic (cP)
abbrev VU(_:y5)(_:y5)(_:Ph)(_:H)(_:d4):Prop:=Fw
section
variable{P:Ph}{d U:H}{s:a6}{A:ec}{t k:a5}{E:y5->a6->Prop}{L:a9->a6->Prop}
theorem St.put(S:St G.D P d s){e o:a4.O}(a:d.ed t k=ap e){h':d4}(y:∀b x,b≠P.al t k->s.bh.ck b=ap x->h'.ck b=ap x)(g:∃x,h'.ck (P.al t k)=ap x)(hn:(∀{v I},aF P d s.bh v I->aF P (d.fC t k o) h' v I)->jx G.D P (d.fC t k o) h' t k o){tk:a5}
  (f:dM G.D bk A VU P d s (.ok () (d.fC t k o)) E L):E () {s with bh:=h',hO:=tk}:=by
 haveI c:=S.h.change a (λb x ne q=>y b x (λz=>ne (ab z ((S.h.ed _ _ _ a).2))) q) (λb x q=>by
  by_cases z:b=P.al t k
  ·exact ab z g
  ·exact⟨x,y b x z q⟩) hn
 exact f _ {s with bh:=h',hO:=tk} P ⟨c.1,S.r⟩ c.2 trivial
theorem iK{a:e9}{h h':d4}(y:d4.nT a h h'):∀b x,b≠a->h.ck b=ap x->h'.ck b=ap x:=λb x n e=>(y.2 b n).trans e
theorem aA.fC{h:d4}{v:V}{I:a9}(r:aF P d h v I):∀{l:am V} {us:am a9} (i:a5),aA P d h l us->aA P d h (l.fC i v) (us.fC i I)
 | [],us,i,q=>by clear r;obtain rfl:us=[]:=q;rfl
 |a::l,_,0,q=>by refine dQ q λx us b q1 q2=>?_;clear q1 q;subst b;exact eN _ _ rfl r q2
 |a::l,_,i+1,q=>by refine dQ q λx us b q1 q2=>?_;clear q;subst b;exact eN _ _ rfl q1 (aA.fC r i q2)
end
section
variable{bZ:mS}{w:tq}{A:ec}{L:a9->a6->Prop}{s:a6}
abbrev jV{l:e9}{us:am a9}{n j:a5}{k:b0}{t:Tok}{v:a9}{E:y5->a6->Prop}:Prop:=∀(b:s.bh.ck l=ap (b7 us n)) (c:k=j) (d:k<2^63) (hn:j<us.ah) (e:∀h' a,h'.ck l=ap (b7 (us.fC j v) a)->d4.nT l s.bh h'->E () {s with bh:=h'}),a8.ch (dd bZ w) A (setItem (.bs l) (.bn k t) v) E L s
theorem v_:∀{bZ w A L s l us n j k t v E},@jV bZ w A L s l us n j k t v E:=by refine λ{bZ w A L s l us n j k t v E}=>cK (q:=kC @jV) ((?_:∀bZ w A L s l us n j k t v E,@jV bZ w A L s l us n j k t v E) _ _ _ _ _ _ _ _ _ _ _ _ _) (bZ,w,A,L,s,l,us,n,j,k,t,v,E);intro bZ w A L s l us n j k t v E a b d hn e;haveI c:s.bh.IsList l us.eb:=⟨_,a,rfl,n,rfl⟩;refine qI.kI c.LG (by decide) slot_list_setitem (a8.E6 slot_list_setitem c.LG entry_list_setitem ?_ (args_list_setitem _ _ _));show a8.ch _ _ (l7.am.listSubscript? (.bn k t)>>=_) _ _ s;refine a8.a7 (wpAny_listSubscript_int (fitsIndex_of (ab b (b0.dv j)) d) ?_);subst b;refine a8.a7 (a8.a7 (wpAny_seqItemAt a rfl (a8.cp (ab (kS (am.wE hn)) ?_))));refine a8.a7 (wpAny_setSeqItemAt a rfl (a8.cp ⟨.bk,rfl,e _ n (ab (d4.mv _ a rfl) ?_) (d4.nT.G0 ..)⟩));simp[Do.mapSeq]
variable{K:Type} [D6 K]{ms:KeyKind bZ w K}
theorem zW{Q:e9}{k:K}{key:a9}{a:am (K×a9)}{E:y5->a6->Prop}(c:ms.is k key=true)(b:s.bh.GY ms Q a)(d:(valueAt a k).z_=true)(e:a.ah<=F1)
  (h:∀h',h'.GY ms Q (without a k)->d4.nT Q s.bh h'->E () {s with bh:=h',hO:=s.hO+1}):a8.ch (dd bZ w) A (delItem (.bs Q) key) E L s:=by
 refine a8.IR (a8.a7 (wpAny_sequenceKey b.LG (by decide) ?_));exact a8.a7 (A7 b.LG a8.F.slot_dict_delitem
  (call_meetsIn a8.F.slot_dict_delitem b.LG a8.F.entry_dict_delitem (a8.F.args_dict_delitem_2 _ _) (meets_dict_delitem_pairs ms Q c) (EC a b e d (λh' f hs=>a8.cp (h h' f hs)))))
theorem GY.nodup{h:d4}{a:e9}{b:am (K×a9)}(Q:h.GY ms a b):(b.hC (·.1)).p9:=Q.ef λZ z=>z.ef λZ z=>z.ef λZ z=>z.2.2.2.2.2
theorem GY.LL{h:d4}{a:e9}{b:am (K×a9)}(Q:h.GY ms a b):∃x,h.ck a=ap x:=Q.DO λo z=>z.ef λZ z=>z.ef λZ z=>z.1
end
def gB(x y v:V)(d U:H):Prop:=∀A P s I w z,Rm A->St G.D P d s->aF P d s.bh x I->aF P d s.bh y w->aF P d s.bh v z->aC G.D bk A VU P d s (.ok () U) (setItem I w z)
def pW(x lo hi v:V)(d U:H):Prop:=∀A P s I w z,Rm A->St G.D P d s->aF P d s.bh x I->Ms lo hi w P d s.bh->aF P d s.bh v z->aC G.D bk A VU P d s (.ok () U) (setItem I w z)
def tu(x y:V)(d U:H):Prop:=∀A P s I w,Rm A->St G.D P d s->aF P d s.bh x I->aF P d s.bh y w->aC G.D bk A VU P d s (.ok () U) (delItem I w)
section
variable{d:H}{v lo hi:V}{t k i j:a5}{l:am V}{b c:am cy}{n:b0}{x:am a5}
theorem gB.dG(a:d.ed t k=ap (.dG l))(q:i<l.ah)(m:i<2^62):gB (.bs t k) (.bn i) v d (d.fC t k (.dG (l.fC i v))):=λA P s I w z p S c e f E L h=>by
 obtain rfl:I=_:=c.1;refine aN e λtk j=>?_;subst j;refine aO (S.dG a) λus n g q1=>?_;exact cl (v_ g rfl (b0.hB.ow (a5.ew (by assumption) av)) (q1.ah▸q) λh' r b y=>S.put (o:=.dG (l.fC i v)) a (iK y) ⟨_,b⟩ (λg=>gZ _ _ b (aA.fC (g f) i (q1.hC g))) h)
theorem gB.aB(a:d.ed t k=ap (.aB b))(q:i<b.ah)(c:b.ah<=aQ)(c0:0<=n)(c1:n<256):gB (.bs t k) (.bn i) (.bn n) d (d.fC t k (.aB (b.fC i (cy.kP n.fo)))):=λA P s I w z l S f g h E L j=>by
 obtain rfl:I=_:=f.1;obtain⟨tk,rfl⟩:=g;obtain⟨tk,rfl⟩:=h;exact cl (qI.EW (S.aB a) (b0.dv i) (b0.hB.ow (a5.ew q (a5.bb c av))) q c c0 c1 λh' e y=>S.put (o:=.aB (b.fC i (cy.kP n.fo))) a (iK y) ⟨_,e⟩ (λZ=>e) j)
theorem gB.di{l:am (b0×V)}(a:d.ed t k=ap (.di l))(hn:aP n)(i:l.ah<=aQ):gB (.bs t k) (.bn n) v d (d.fC t k (.di (ee l n v))):=λA P s I w z j S b c m E L p=>by
 clear j;obtain rfl:I=_:=b.1;refine aN c λtk q=>?_;clear c b;subst q;refine ar ((S.h.ed _ _ _ a).1) λr e f=>?_;exact cl (wpAny_setItem_pairs (kO n tk) e (λh' h y=>S.put (o:=.di (ee l n v)) a (iK y) (GY.LL h) (λg=>aR _ h (f.put lR hn g (g m) (GY.nodup e))) p) (a5.bb (lG f.ER i) av))
theorem pW.aB(f:d.ed t k=ap (.aB b))(h:endAt lo 0 i)(l:endAt hi b.ah j)(q1:i<=j)(q2:j<=b.ah)(B:c.ah=j - i)(C:b.ah<=aQ):pW (.bs t k) lo hi (.d3 c) d (d.fC t k (.aB (b.m0 i++c++b.zt j))):=λA P s I w z D S m n p E L F=>by
 obtain rfl:I=_:=m.1;refine aD λJ q=>?_;refine tE n λa lv K G fr g r u=>?_;clear fr n m;subst G;refine aN p λtk H=>?_;clear p;subst H;refine ar (r.part h) λx p1 e=>?_;clear r h;subst e;refine ar (u.part l) λy p2 e=>?_;clear u l;subst e;apply q;clear q;exact wx D.gd (S.aB f) (mM _ g rfl rfl) p1 p2 q1 q2 B C λh' v y=>S.put (o:=.aB (b.m0 _++c++b.zt _)) f y ⟨_,v⟩ (λZ=>v) F
theorem tu.di{l:am (b0×V)}(b:d.ed t k=ap (.di l))(i:bY l n=ap v)(j:l.ah<=aQ):tu (.bs t k) (.bn n) d (d.fC t k (.di (jv l n))):=λA P s I w m S c e E L p=>by
 clear m;obtain rfl:I=_:=c.1;refine aN e λtk q=>?_;clear e c;subst q;refine ar ((S.h.ed _ _ _ b).1) λr f a=>?_;haveI z:=a.val lR n;replace z:=i▸z;refine ar z λI z Z=>?_;exact cl (zW (kO n tk) f (ab z rfl) (a5.bb (lG a.ER j) av) λh' h y=>S.put (o:=.di (jv l n)) b (iK y) (GY.LL h) (λg=>aR _ h (a.del lR g (GY.nodup f))) p)
end
end Internal
end
section
namespace Internal
inductive Fl where |nx |br |rt(v:V) |ex(c:a5)
instance:ru Fl:=⟨.nx⟩
def MD(P:Ph)(d:H)(h:d4)(fl:Fl)(f:Flow):Prop:=match fl with
 | .nx=>f=.next
 | .br=>f=.brk
 | .rt v=>∃I,f=.ret I/\aF P d h v I
 | .ex _=>uk
structure Made(ad:e9)(c:a5)(P P':Ph)(d U:H)(h:d4)(s':a6)(ea:e9)(oe:Do)(vs:rv a9)(a0:a9):Prop where
 LL:s'.bh.ck ea=ap oe
 mm:oe.mm=.bs (G.D.mm c)
 hy:oe.hy=.j3 vs
 v0:vs[0]?=ap a0
 v1:vs[1]?=ap .bk
 py:G.D.hE.ck ea=bk
 hM:∀b o,h.ck b=ap o->P.k0 b=.j2->b≠ea
 st:St G.D P' U s'
 ext:At (ap ad) P P' d U h s'.bh
 k0:P'.k0 ea=.j2
structure gC(ad:e9)(A:ec)(c:a5)(P P':Ph)(d U:H)(h:d4)(s':a6)(ea:e9)(B:d4):Prop where
 held:∃a0 l,A.un=ap l/\d4.HeldW B l ea (.bs (G.D.mm c)) a0 ad s'.bh
 st:iz G.D uk P' U B
 fr:∀b M,P'.k0 b=.f5 M->∃o,s'.bh.ck b=ap o/\∀vs,o.hy≠ .j3 vs
 j1:∀b o,h.ck b=ap o->P.k0 b=.j2->B.ck b=ap o
 ext:At (ap ad) P P' d U h s'.bh
 r:s'.gens=G.D.gens/\s'.drawn=G.D.drawn/\s'.os=G.D.os/\G.D.lv
def dj(ad:e9)(A:ec)(c:a5)(P P':Ph)(d U:H)(h:d4)(e:a9)(s':a6):Prop:=
 eC G.D (ap ad) A c P P' d U h e s'\/(∃ea a vs b,e=.bs ea/\Made ad c P P' d U h s' ea a vs b)\/∃ea B,e=.bs ea/\gC ad A c P P' d U h s' ea B
def ba(A:ec)(nf:a5)(sl:am h9)(u:Cg)(P:Ph)(d:H)(s:a6)(fl:Fl)(aL:am V)(U:H)(t:xE Flow):Prop:=∀(E:Flow->a6->Prop) (L:a9->a6->Prop),
 (∀f s' P',St G.D P' U s'->At (ap u.gX) P P' d U s.bh s'.bh->lE nf sl u aL P' U s'.bh->MD P' U s'.bh fl f->E f s')->
 (∀c e s' P',fl=.ex c->dj u.gX A c P P' d U s.bh e s'->lE nf sl u aL P' U s'.bh->L e s')->ch (dd G.D.bZ G.D.w) A t E L s
def cw(A:ec)(nf:a5)(sl:am h9)(u:Cg)(P:Ph)(d:H)(s:a6)(aL:am V)(U:H)(t:xE y5):Prop:=∀(E:y5->a6->Prop) (L:a9->a6->Prop),
 (∀s' P',St G.D P' U s'->At (ap u.gX) P P' d U s.bh s'.bh->lE nf sl u aL P' U s'.bh->E () s')->ch (dd G.D.bZ G.D.w) A t E L s
section
variable{α β:Type}{A:ec}{P P' cS:Ph}{d U ay:H}{s s':a6}{h h':d4}{nf:a5}{sl:am h9}{u:Cg}{vs aL:am V}{fl:Fl}{ad:e9}{c:a5}{e:a9}{lp:ct}{VR:α->β->Ph->H->d4->Prop}
theorem eC.weak{ad:bS e9}(x:eC G.D bk A c P P' d U h e s'):eC G.D ad A c P P' d U h e s':=
 aO x λea B a z=>⟨ea,B,a,z.zD,z.st,z.fr,z.ext.weak,z.j1,z.r⟩
abbrev dj.oA:Prop:=∀(x:At (ap ad) P P' d U h h') (y:dj ad A c P' cS U ay h' e s'),dj ad A c P cS d ay h e s'
theorem dj.Lz:∀{A P P' cS d U ay s' h h' ad c e},@dj.oA A P P' cS d U ay s' h h' ad c e:=by
 refine λ{A P P' cS d U ay s' h h' ad c e}=>cK (q:=kC @dj.oA) ((?_:∀A P P' cS d U ay s' h h' ad c e,@dj.oA A P P' cS d U ay s' h h' ad c e) _ _ _ _ _ _ _ _ _ _ _ _ _) (A,P,P',cS,d,U,ay,s',h,h',ad,c,e);intro A P P' cS d U ay s' h h' ad c e x y;refine aD λf a=>?_;rcases y with y |⟨ea,oe,vs,a0,e1,z⟩ |⟨ea,B,e1,z⟩<;>refine a ?_<;>clear a
 ·exact .u0 (y.Lz x)
 ·exact .wl (.u0 ⟨ea,oe,vs,a0,e1,z.LL,z.mm,z.hy,z.v0,z.v1,z.py,λb o q w=>z.hM b o (x.j1 b o q w) ((x.k0 b _ q).trans w),z.st,x.trans z.ext,z.k0⟩)
 ·exact .wl (.wl ⟨ea,B,e1,z.held,z.st,z.fr,λb o q w=>z.j1 b o (x.j1 b o q w) ((x.k0 b _ q).trans w),x.trans z.ext,z.r⟩)
theorem ba.aU{t:y5->xE Flow}{bv:Dx}(x:ba A nf sl u P d s fl aL U (t ())):ba A nf sl u P d s fl aL U (kK bv>>=t):=λE L k k'=>aa (ax (x E L k k'))
theorem ba.lift{a:α}{t:xE β}{g:β->xE Flow}(x:aC G.D bk A VR P d s (.ok a U) t)
  (y:∀b s' P',St G.D P' U s'->At bk P P' d U s.bh s'.bh->VR a b P' U s'.bh->ba A nf sl u P' U s' fl aL ay (g b)):ba A nf sl u P d s fl aL ay (t>>=g):=
 λE L k k'=>aa (x _ L λb s' P' S X v=>y b s' P' S X v E L (λf h cS S' i=>k f h cS S' (X.weak.trans i)) λc e h cS q z=>k' c e h cS q (z.Lz X.weak))
theorem ba.yY{t:xE β}{g:β->xE Flow}(F:lE nf sl u vs P d s.bh)(x:aC G.D bk A VR P d s (.exc c U) t):ba A nf sl u P d s (.ex c) vs U (t>>=g):=
 λE L k k'=>aa (x _ L λe s' P' z=>k' c e s' P' rfl (.u0 z.weak) (aO z λea B Z z=>F.kx z.ext))
theorem ba.h8{f:Flow}(S:St G.D P d s)(F:lE nf sl u vs P d s.bh)(v:MD P d s.bh fl f):ba A nf sl u P d s fl vs d (h8 f):=λE L k k'=>af (k f s P S .hJ F v)
theorem ba.after{t:xE y5}{g:y5->xE Flow}(x:cw A nf sl u P d s vs U t)(y:∀s' P',St G.D P' U s'->At (ap u.gX) P P' d U s.bh s'.bh->lE nf sl u vs P' U s'.bh->ba A nf sl u P' U s' fl aL ay (g ())):ba A nf sl u P d s fl aL ay (t>>=g):=
 λE L k k'=>aa (x _ L λs' P' S X F=>y s' P' S X F E L (λf a cS S' b=>k f a cS S' (X.trans b)) λc e a cS q z=>k' c e a cS q (z.Lz X))
theorem cw.next{t:xE y5}(x:cw A nf sl u P d s vs U t):ba A nf sl u P d s .nx vs U (t>>=λZ=>Pure.h8 .next):=ba.after x λs' P' S X F=>ba.h8 S F rfl
theorem cw.tb{a:α}{t:xE β}{g:β->xE y5}(x:aC G.D bk A VR P d s (.ok a U) t)
  (y:∀b s' P',St G.D P' U s'->At bk P P' d U s.bh s'.bh->VR a b P' U s'.bh->cw A nf sl u P' U s' aL ay (g b)):cw A nf sl u P d s aL ay (t>>=g):=
 λE L k=>aa (x _ L λb s' P' S X v=>y b s' P' S X v E L λc cS S' e=>k c cS S' (X.weak.trans e))
theorem cw.aU{t:y5->xE y5}{bv:Dx}(x:cw A nf sl u P d s aL U (t ())):cw A nf sl u P d s aL U (kK bv>>=t):=λE L k=>aa (ax (x E L k))
theorem cw.of{a:α}{t:xE β}{k:β->xE y5}(F:lE nf sl u vs P d s.bh)(x:aC G.D bk A VR P d s (.ok a U) t)(c:∀b (E:y5->a6->Prop) (L:a9->a6->Prop) s',E () s'->ch (dd G.D.bZ G.D.w) A (k b) E L s'):cw A nf sl u P d s vs U (t>>=k):=
 λE L z=>aa (x _ L λb s' P' S X v=>c b E L s' (z s' P' S X.weak (F.kx X)))
theorem Ns.rE{h:d4}{ad:e9}{m:h9->bS a9}(x:h.Ns ad m):∃o,h.ck ad=ap o/\∀vs,o.hy≠ .j3 vs:=
 rL x λo es b a hd Z=>aR o a (λvs e=>bf Data.b4 (hd.symm.trans e) rfl)
theorem wP.rE{h:d4}{a:e9}{v:bS a9}(x:h.wP a v):∃o,h.ck a=ap o/\∀vs,o.hy≠ .j3 vs:=
 ar x λo b hd=>aR o b (λvs e=>bf Data.b4 (hd.symm.trans e) rfl)
theorem iB.f5{y Q:a5}(a:iB y lp A P h Q)(x:At (ap u.gX) P P' d U h h')(F:lE nf sl u vs P' U h'):iB y lp A P' h' Q:=
 a.kx x λad o e Z Z=>by
  obtain rfl:ad=u.gX:=bS.ap.zv e.symm;exact ar F.ns λm n Z=>Ns.rE n
theorem iz.fq{fr:Prop}{a M:e9}(S:iz G.D fr P d h)(ha:P.k0 a=.f5 M)(hs:d4.nT a h h')(hn:∃o,h'.ck a=ap o/\∀vs,o.hy≠ .j3 vs):iz G.D fr P d h'/\At (ap M) P P d d h h':=by
 have kp:∀b o,P.k0 b≠ .f5 M->h.ck b=ap o->h'.ck b=ap o:=λb o f e=>(hs.2 b (λz=>f (ab z ha))).trans e;have X:At (ap M) P P d d h h':=⟨λt k l=>⟨l,rfl⟩,λb o e f=>kp b o (ab f (λz=>bf GX.b4 z rfl)) e,λb o c e f n=>⟨o.vT,kp b o (λz=>n (b5 ap (GX.f5.zv (f.symm.trans z)))) e⟩,λb o e=>by
  by_cases z:b=a
  ·exact ab z (hn.DO λZ q=>q.1)
  ·exact⟨o,(hs.2 b z).trans e⟩,λZ Z Z=>rfl⟩
 refine⟨⟨λb t k q=>(S.min b t k q).DO λo e=>kp b o (ab q (λz=>bf GX.b4 z rfl)) e,S.low,λf b c e=>?_,λb o e=>⟨kp b o (ab ((S.tg b o e).2) (λz=>bf GX.b4 z rfl)) (S.tg b o e).1,(S.tg b o e).2⟩,
  λt k o e=>⟨(S.ed t k o e).1.hC (λr=>r.kx X.q7) (S.ed t k o e).2 rfl λb x g i=>⟨kp b x (ab g (λz=>bf GX.b4 z rfl)) i,g⟩,(S.ed t k o e).2⟩,S.fresh,S.DD.kx (λZ e=>e) λb o f e=>⟨kp b o (ab f (λz=>bf GX.b4 z rfl)) e,f⟩⟩,X⟩
 by_cases z:b=a
 ·exact ab z hn
 ·exact(S.qL f b c e).DO λo q=>⟨(hs.2 b z).trans q.1,q.2⟩
theorem mT{i j:a5}{v w:V}(h:(vs.fC i v)[j]?=ap w):(j=i/\w=v)\/(j≠i/\vs[j]?=ap w):=by
 replace h:=(am.getElem?_set)▸h;by_cases q:i=j
 ·replace h:=(et q)▸h;by_cases r:i<vs.ah
  ·replace h:=(et r)▸h;exact .u0 ⟨q.symm,(bS.ap.zv h).symm⟩
  ·replace h:=(dx r)▸h;exact dE h
 ·replace h:=(dx q)▸h;exact .wl ⟨λe=>q e.symm,h⟩
theorem nP{k:bS nc}{x y:nc}(h1:k=ap x)(h2:k=ap y)(n:x≠y){p:Prop}:p:=kk (bS.ap.zv (h1.symm.trans h2)) n
abbrev jU{i:a5}{n:h9}{v:V}{I:a9}:Prop:=∀(S:St G.D P d s) (F:lE nf sl u vs P d s.bh) (hi:i<nf) (hn:sl[i]?=ap n) (r:aF P d s.bh v I),cw A nf sl u P d s (vs.fC i v) d (bindName u n I)
theorem iI:∀{A P d s nf sl u vs i n v I},@jU A P d s nf sl u vs i n v I:=by
 refine λ{A P d s nf sl u vs i n v I}=>cK (q:=ve @jU) ((?_:∀A P d s nf sl u vs i n v I,@jU A P d s nf sl u vs i n v I) _ _ _ _ _ _ _ _ _ _ _ _) (A,P,d,s,nf,sl,u,vs,i,n,v,I);intro A P d s nf sl u vs i n v I S F hi hn r;exact λE L k=>by
  refine cl (wpAny_bindName ?_);have B:∀(j:a5) (m:h9) (w:V),sl[j]?=ap m->(vs.fC i v)[j]?=ap w->w≠ .i1->(m=n/\w=v)\/(m≠n/\vs[j]?=ap w):=λj m w f l g=>by
   refine aD λQ M=>?_;clear k L E r I S;clear A;rcases mT l with⟨rfl,q⟩ |⟨q1,q2⟩<;>refine M ?_<;>clear M
   ·exact .u0 ⟨bS.ap.zv (f.symm.trans hn),q⟩
   ·refine .wl ⟨λz=>?_,q2⟩;clear Q l v;subst z;by_cases C:j<nf
    ·exact q1 (F.nd j i m C hi f hn)
    ·exact g (F.GQ j w (a5.Fa C) q2)
  have p:∀h' tk,At (ap u.gX) P P d d s.bh h'->iz G.D Fw P d h'->Fm sl u (vs.fC i v) P d h'->E () {s with bh:=h',hO:=tk}:=λh' tk X S' N=>by
   refine k {s with bh:=h',hO:=tk} P ⟨S',S.r⟩ X ⟨N,F.f5,F.eU,F.apart,F.has,F.nd,λj w C e=>?_⟩;clear N S' X tk h' B k L E r hn I n S;clear A;rcases mT e with⟨rfl,_⟩ |⟨_,q⟩
   ·exact kk hi (a5.to.ow C)
   ·exact F.GQ j w C q
  refine ar F.ns λm ns D=>?_;clear k;rcases F.has i n hi hn with hl |⟨hl,h⟩
  ·refine wpAny_storeName_local hl ns (λh' H hs=>?_) (ab F.s9 rfl);obtain⟨S',X⟩:=S.h.fq F.k0 hs (Ns.rE H);refine p h' _ X S' ⟨F.k0,⟨_,H,λj q w f l g o=>?_⟩,λq c e=>?_,λj q w f l g o=>?_,F.s9,F.glob,F.Ly,F.uE⟩
   ·clear H S' hs hl ns p L E hn hi F S;clear nf A;rcases B j q w f l g with⟨rfl,rfl⟩ |⟨ne,e⟩
    ·exact aR I (et rfl) (r.kx X.q7)
    ·exact ar (D j q w f e g o) λt a b=>aR t ((dx ne).trans a) (b.kx X.q7)
   ·obtain⟨a,x,b⟩:=F.np q c e;exact⟨a,x,b.sameBut hs (F.eU q c e).2⟩
   ·clear H S' D ns m p L E r hn hi I S;clear A;rcases B j q w f l g with⟨rfl,rfl⟩ |⟨ne,e⟩
    ·exact o.ef (λe=>nP hl e (λz=>bf nc.b4 z rfl)) λe=>nP hl e (iD nc.b4)
    ·exact dQ (F.E2 j q w f e g o) λc t a b y=>eN c t a (b.sameBut hs (F.eU q c a).2) (y.kx X.q7)
  ·refine aN (bS.v8.mp h) λc h=>?_;obtain⟨_,x,J⟩:=F.np n c h;haveI k0:=F.eU n c h;refine wpAny_storeName_cell F.s9 hl h J λh' K hs=>?_;obtain⟨S',X⟩:=S.h.fq k0.1 hs (wP.rE K);refine p h' _ X S' ⟨F.k0,⟨m,ns.sameBut hs (Ne.symm k0.2),λj q w f l g o=>?_⟩,λq y e=>?_,λj q w f l g o=>?_,F.s9,F.glob,F.Ly,F.uE⟩
   ·clear S' hs K k0 J x h ns p L E r hn hi I F S;clear h nf;rcases B j q w f l g with⟨rfl,rfl⟩ |⟨ne,e⟩
    ·exact nP hl o (iD nc.b4)
    ·exact ar (D j q w f e g o) λt a b=>aR t a (b.kx X.q7)
   ·obtain⟨a,O,b⟩:=F.np q y e;clear e q X S' k0 J x h hl D ns m p B L E r hn hi v;clear F S;by_cases z:y=c
    ·clear b O hs h;subst z;exact⟨a,_,K⟩
    ·exact⟨a,O,b.sameBut hs z⟩
   ·clear S' k0 J x hl D ns m p L E hn hi S;clear A;rcases B j q w f l g with⟨rfl,rfl⟩ |⟨ne,e⟩
    ·exact eN c I h K (r.kx X.q7)
    ·exact dQ (F.E2 j q w f e g o) λy t a b R=>eN y t a (b.sameBut hs λz=>ne (F.apart q n y a (ab z h))) (R.kx X.q7)
end
section
variable{gl:am (h9×Gl)}{ev:a5->h9}{C:Cx}{nf:a5}{e:xo}
theorem L6{e:fY}{x:X}{n:a5}:sM gl ev C nf (.a x n) e=(aZ (eB e) λk=>k.2.1==ev n&&aM gl ev C x k.1):=rfl
theorem L5{e:fY}{x i:X}:sM gl ev C nf (.s x i) e=(aZ (ly e) λk=>k.2.1.b4 !=26&&(aM gl ev C x k.1&&aM gl ev C i k.2.1)):=rfl
theorem IS{e:fY}{x lo hi:X}:sM gl ev C nf (.sl x lo hi) e=(aZ (ly e) λk=>aZ (rp k.2.1) λl=>aM gl ev C x k.1&&((match l.1 with |ap l=>aM gl ev C lo l |bk=>lo.b4==1)&&(match l.2.1 with |ap h=>aM gl ev C hi h |bk=>hi.b4==1))):=rfl
theorem I9{t:T}{x:X}:fD gl ev C nf (.as t x) e=(aZ (dD e) λk=>one k.1 λt'=>nJ t'&&((da k.2.1 ||t'.b4 !=23)&&(aM gl ev C x k.2.1&&sM gl ev C nf t t'))):=rfl
theorem F9{i:a5}{x:X}:fD gl ev C nf (.asc i x) e=(aZ (dD e) λk=>one k.1 λt'=>decide (i<nf)&&(Dd C i t'&&(x.b4==23&&aM gl ev C x k.2.1))):=rfl
theorem F8{ts:am T}{x:X}:fD gl ev C nf (.ast ts x) e=(aZ (dD e) λk=>one k.1 λt'=>aZ (cn t') λt'=>da k.2.1&&((rS C t'.1 k.2.1).H_&&(t'.1.l3 bc&&(decide (ts.ah=t'.1.ah)&&(aM gl ev C x k.2.1&&pL gl ev C nf ts t'.1))))):=rfl
theorem I_{i:a5}{o:x0}{x:X}:fD gl ev C nf (.ag i o x) e=(aZ (v7 e) λk=>decide (i<nf)&&(aZ (eO k.1) (λn=>C.sl[i]?==ap n.1&&(rO (C.kd n.1)&& !(n.1==("__classdict__" :h9))))&&(k.2.1==o&&aM gl ev C x k.2.2.1))):=rfl
theorem F_{q:X}{n:a5}{o:x0}{x:X}:fD gl ev C nf (.je q n o x) e=(aZ (v7 e) λk=>aZ (eB k.1) λa=>a.2.1==ev n&&(k.2.1==o&&(aM gl ev C q a.1&&aM gl ev C x k.2.2.1))):=rfl
theorem Ef{x:X}:fD gl ev C nf (.ex x) e=(aZ (oG e) λk=>da k.1&&aM gl ev C x k.1):=rfl
theorem FZ{t:X}{a b:am S}:fD gl ev C nf (.xD t a b) e=(aZ (El e) λk=>aM gl ev C t k.1&&(cD gl ev C nf a k.2.1&&cD gl ev C nf b k.2.2.1)):=rfl
theorem IY{t:X}{b:am S}:fD gl ev C nf (.wh t b) e=(aZ (vZ e) λk=>aM gl ev C t k.1&&cD gl ev C nf b k.2.1):=rfl
theorem F7{i:a5}{it:X}{b:am S}:fD gl ev C nf (.oX i it b) e=(aZ (pT e) λk=>decide (i<nf)&&(Dd C i k.1&&(cO k.2.1&&(it.b4 !=26&&(aM gl ev C it k.2.1&&cD gl ev C nf b k.2.2.1))))):=rfl
theorem I7{a:am a5}{it:X}{b:am S}:fD gl ev C nf (.fr a it b) e=(aZ (pT e) λk=>aZ (cn k.1) (λt=>w6 C nf a t.1)&&(cO k.2.1&&(aM gl ev C it k.2.1&&cD gl ev C nf b k.2.2.1))):=rfl
theorem I0{x:X}:fD gl ev C nf (.rt x) e=(aZ (td e) λk=>on k.1 λe=>aM gl ev C x e):=rfl
theorem FY:fD gl ev C nf (.xB) e=(aZ (td e) λk=>k.1.H_):=rfl
theorem I2{c:a5}{x:X}:fD gl ev C nf (.rs c x) e=(aZ (rq e) λk=>on k.1 λe=>aZ (cZ e) λf=>oN gl C f.1 (.mm c)&&one f.2.1 λa=>bc a&&aM gl ev C x a):=rfl
theorem I8{o i:X}:fD gl ev C nf (.dl o i) e=(aZ (Em e) λk=>one k.1 λe=>aZ (ly e) λk=>k.2.1.b4 !=26&&(aM gl ev C o k.1&&aM gl ev C i k.2.1)):=rfl
theorem IZ{b:am S}{c:a5}{hs:am S}:fD gl ev C nf (.tr b c hs) e=(aZ (Ek e) λk=>cD gl ev C nf b k.1&&one k.2.1 λh=>(match h with | .FM t n b_ _=>on t (λe=>oN gl C e (.mm c))&&(n.H_&&(!b_.sw&&w7 gl ev C hs b_)))):=rfl
end
structure fH(lp:ct)(Q:a5)(C:Cx)(nf:a5)(A:ec)(u:Cg)(vs:am V)(P:Ph)(d:H)(s:a6):Prop where
 hS:St G.D P d s
 F:lE nf C.sl u vs P d s.bh
 k:rC C u
 ac:Ac lp A P s.bh Q
 top:∃l,A.un=ap (u::l)
section
variable(lp:ct)(Q:a5)
def SS(vs:am V)(d:H)(x:S)(fl:Fl)(aL:am V)(U:H):Prop:=∀C nf e,fD c9 G.D.ev C nf x e=true->∀A u P s,fH lp Q C nf A u vs P d s->ba A nf C.sl u P d s fl aL U (a8.exec e u)
def SB(vs:am V)(d:H)(x:am S)(fl:Fl)(aL:am V)(U:H):Prop:=∀C nf e,cD c9 G.D.ev C nf x e=true->∀A u P s,fH lp Q C nf A u vs P d s->ba A nf C.sl u P d s fl aL U (a8.KE e u)
def TG(vs:am V)(d:H)(t:T)(v:V)(aL:am V)(U:H):Prop:=∀C nf e,sM c9 G.D.ev C nf t e=true->∀A u P s I,fH lp Q C nf A u vs P d s->aF P d s.bh v I->cw A nf C.sl u P d s aL U (a8.Cj e u I)
end
section
variable{lp:ct}{Q:a5}{C:Cx}{A:ec}{u:Cg}{vs aL p_:am V}{P P':Ph}{d U ay ie:H}{s s':a6}{x y o i:X}{t:T}{v w I:V}{b:ct}{nf n j:a5}{fl:Fl}{st:S}{ss:am S}{k c:a5}
theorem fH.mJ(a:fH lp Q C nf A u vs P d s):o9 lp Q C A u vs P d s:=⟨a.hS,a.F.toFm,a.k,a.ac⟩
theorem fH.on(a:fH lp Q C nf A u vs P d s)(S:St G.D P' U s')(X:At bk P P' d U s.bh s'.bh):fH lp Q C nf A u vs P' U s':=⟨S,a.F.kx X,a.k,a.ac.mr X,a.top⟩
theorem fH.next(a:fH lp Q C nf A u vs P d s)(S:St G.D P' U s')(X:At (ap u.gX) P P' d U s.bh s'.bh)(F:lE nf C.sl u aL P' U s'.bh):fH lp Q C nf A u aL P' U s':=⟨S,F,a.k,a.ac.f5 X F,a.top⟩
theorem SB.iv:SB lp Q vs d [] .nx vs d:=λC nf e h A u P s a=>by
 obtain rfl:e=[]:=am.sn.mp h;exact ba.h8 a.hS a.F rfl
theorem om{e:am xo}(h:cD c9 G.D.ev C nf (st::ss) e=true):∃a r,e=a::r/\fD c9 G.D.ev C nf st a=true/\cD c9 G.D.ev C nf ss r=true:=by
 cases e with
 |iv=>exact dP h
 |d2 a r=>exact eN a r rfl (ao h) (ai h)
theorem SB.d2(h1:SS lp Q vs d st .nx aL U)(h2:SB lp Q aL U ss fl p_ ay):SB lp Q vs d (st::ss) fl p_ ay:=λC nf e h A u P s a=>by
 refine dQ (om h) λi r j c1 l=>?_;subst j;exact λE L q m=>aa (h1 C nf i c1 A u P s a _ L (λf s' P' S' b n z=>by
  obtain rfl:f=.next:=z;exact h2 C nf r l A u P' s' (a.next S' b n) E L (λf g cS o p=>q f g cS o (b.trans p)) λc e g cS k z=>m c e g cS k (z.Lz b)) λc e s' P' z=>bf Fl.b4 z rfl)
theorem SB.stop(h1:SS lp Q vs d st fl aL U)(hf:fl≠ .nx):SB lp Q vs d (st::ss) fl aL U:=λC nf e h A u P s a=>by
 refine dQ (om h) λb r k c1 l=>?_;clear l h;subst k;show ba A nf C.sl u P d s _ _ _ (a8.exec b u>>=λf=>match f with | .next=>a8.KE r u |f=>h8 f);refine λE L q g=>aa (h1 C nf b c1 A u P s a _ L (λf s' P' S' i j z=>?_) g);clear g c1 b a h1;cases fl with
 |nx=>exact kk rfl hf
 |br=>clear st hf;obtain rfl:f=.brk:=z;exact af (q _ s' P' S' i j rfl)
 |rt v=>refine ar z λI m r=>?_;clear z st hf;subst m;exact af (q _ s' P' S' i j ⟨I,rfl,r⟩)
 |ex c=>exact z.ef
theorem bK{e:fY}{t:bS fY}{n:a5}(h:da e=true):K8 e t n u=h8 false:=by cases e<;>first |rfl |exact dP h
theorem wg{α:Type}{t:fY}(h:(t.b4 !=23)=true){X Z:α}{Y:h9->Dx->α}:(match ap t with |bk=>X |ap (.r0 a p)=>Y a p |ap _=>Z)=Z:=by cases t<;>first |rfl |exact dP h
theorem rR{e t:fY}{l:a5}(h:(t.b4 !=23)=true):K8 e (ap t) l u=h8 false:=by
 by_cases q:da e=true
 ·exact bK q
 ·skip;cases e<;>first |exact kk rfl q |exact wg h
theorem vN{e:fY}{bv:Dx}(h:da e=true)(F:Fm C.sl u vs P d s.bh):a8.exec (.fY e bv) u=(kK bv>>=λZ=>a8.pa e u>>=λv=>dropValue e bv v):=
 exec_Expr u e bv (by unfold interactive;exact ab F.s9 rfl) (bK h)
theorem SS.ex(b:EX lp Q vs d x (.ok v U)):SS lp Q vs d (.ex x) .nx vs U:=λC nf e h A u P s a=>by
 refine ar (aj (Ef.symm.trans h)) λp c q=>?_;clear h;subst c;exact ab (vN (ao q) a.F.toFm) (ba.aU (ba.lift (b C p.1 (ai q) A u P s a.mJ) λI s' P' S' f r E L k Z=>cl (wpAny_dropValue (k _ _ P' S' .hJ (a.F.kx f) rfl))))
theorem SS.sG(b:EX lp Q vs d x (.exc c U)):SS lp Q vs d (.ex x) (.ex c) vs U:=λC nf e h A u P s a=>by
 refine ar (aj (Ef.symm.trans h)) λp f q=>?_;clear h;subst f;exact ab (vN (ao q) a.F.toFm) (ba.aU (ba.yY a.F (b C p.1 (ai q) A u P s a.mJ)))
theorem SS.xB:SS lp Q vs d .xB (.rt .bk) vs d:=λC nf e h A u P s a=>by
 refine ar (aj (FY.symm.trans h)) λp b q=>?_;clear h;subst b;exact ab (bS.Hx.mp q) (ba.aU (ba.h8 a.hS a.F (aR _ rfl rfl)))
theorem Eh{e:xo}(h:fD c9 G.D.ev C nf (.rt x) e=true):∃y bv,e=.Return (ap y) bv/\aM c9 G.D.ev C x y=true:=
 ar (aj (I0.symm.trans h)) λp e q=>ar (cU q) λy z q=>gZ y p.2 (z▸e) q
theorem SS.rt(b:EX lp Q vs d x (.ok v U)):SS lp Q vs d (.rt x) (.rt v) vs U:=λC nf e h A u P s a=>by
 refine aO (Eh h) λy bv c q=>?_;clear h;subst c;exact ba.aU (ba.lift (b C y q A u P s a.mJ) λI s' P' S' f r=>ba.h8 S' (a.F.kx f) (aR I rfl r))
theorem SS.Ou(b:EX lp Q vs d x (.exc c U)):SS lp Q vs d (.rt x) (.ex c) vs U:=λC nf e h A u P s a=>by
 refine aO (Eh h) λy bv f q=>?_;clear h;subst f;exact ba.aU (ba.yY a.F (b C y q A u P s a.mJ))
theorem SS.xD{ta fb:am S}(f:ET lp Q vs d x (.ok b U))(hb:SB lp Q vs U (if b then ta else fb) fl aL ay):SS lp Q vs d (.xD x ta fb) fl aL ay:=λC nf e h A u P s a=>by
 refine ar (aj (FZ.symm.trans h)) λp i q=>?_;clear h;subst i;show ba A nf C.sl u P d s _ _ _ (kK p.2.2.2>>=λZ=>isTrue p.1 u (a8.pa p.1 u)>>=λc=>if c then a8.KE p.2.1 u else a8.KE p.2.2.1 u);refine ba.aU (ba.lift (f C p.1 (ao q) A u P s a.mJ) λc s' P' S' g r=>?_);clear f;obtain rfl:c=b:=r;cases c with
 |true=>exact hb C nf p.2.1 (ao (ai q)) A u P' s' (a.on S' g)
 |false=>exact hb C nf p.2.2.1 (ai (ai q)) A u P' s' (a.on S' g)
theorem sO{e:fY}(h:Dd C j e=true):∃id bv,e=.r0 id bv/\C.sl[j]?=ap id:=
 ar (aj h) λp e q=>gZ p.1 p.2 e (cx q)
theorem TG.wQ:TG lp Q vs d (.v j) v (vs.fC j v) d:=λC nf e h A u P s I a r=>by
 refine aO (sO (ai h)) λid bv b q=>?_;subst b;exact cw.aU (iI a.hS a.F (ra (ao h)) q r)
theorem gJ{vs ws:am a9}{E:y5->a6->Prop}{L:a9->a6->Prop}(q:E () s):ch (dd G.D.bZ G.D.w) A (GE vs ws) E L s:=cl (LC q)
theorem TG.ev{fs:am (a5×V)}(f:EX lp Q vs d x (.ok (.bs n k) U))(g:U.ed n k=ap (.qD fs))(ha:(G.D.H4 n).b6 j=true)(i:fs.ah<200):TG lp Q vs d (.a x j) v vs (U.fC n k (.qD (oY fs j v))):=λC nf e h A u P s I a r=>by
 refine ar (aj (L6.symm.trans h)) λp l q=>?_;subst l;refine ab (cx (ao q)) ?_;refine cw.tb (aC.ff (f C p.1 (ai q) A u P s a.mJ)) λm s' P' S' c o=>cw.aU ?_;obtain rfl:m=_:=o.1;exact cw.of (a.F.kx c) (aC.ff (rW (G.ok S'.lv) S' g ha i (r.kx c.q7))) λb E L s' q=>gJ q
theorem uT{o i:fY}{bv:Dx}{v:a9}(h:(i.b4 !=26)=true):a8.Cj (.Subscript o i bv) u v=(a8.ff [v] (a8.pa o u)>>=λa=>a8.ff [v,a] (a8.pa i u)>>=λb=>kK bv>>=λZ=>a8.ff [v,a,b] (setItem a b v)>>=λZ=>GE [v,a,b] []):=by cases i<;>first |rfl |exact dP h
theorem TG.item(j:EX lp Q vs d o (.ok w U))(hi:EX lp Q vs U i (.ok I ay))(k:gB w I v ay ie):TG lp Q vs d (.s o i) v vs ie:=λC nf e h A u P s z a r=>by
 refine ar (aj (L5.symm.trans h)) λp l q=>?_;clear h;subst l;refine ab (uT (ao q)) (cw.tb (aC.ff (j C p.1 (ao (ai q)) A u P s a.mJ)) λy s' P' S' f m=>?_);have g:=a.on S' f;exact cw.tb (aC.ff (hi C p.2.1 (ai (ai q)) A u P' s' g.mJ)) λB n cS t c x=>cw.aU (cw.of (g.F.kx c) (aC.ff (k A cS n _ _ _ a.ac.room t (m.kx c.q7) x ((r.kx f.q7).kx c.q7))) λb E L s' q=>gJ q)
theorem TG.slice{lo hi:X}{l h:V}(n:EX lp Q vs d o (.ok w U))(h1:EO lp Q vs U lo l ay)(h2:EO lp Q vs ay hi h ie){i:H}(t:pW w l h v ie i):TG lp Q vs d (.sl o lo hi) v vs i:=λC nf e h A u P s z a r=>by
 refine ar (aj (IS.symm.trans h)) λp x q=>?_;clear h;subst x;refine ar (aj q) λk y q=>ab y ?_;show cw A nf C.sl u P d s _ _ (a8.ff [z] (a8.pa p.1 u)>>=λc=>a8.ff [z,c] (a8.pa (.Slice k.1 k.2.1 bk k.2.2) u)>>=λf=>kK p.2.2>>=λZ=>a8.ff [z,c,f] (setItem c f z)>>=λZ=>GE [f,z,c] []);refine cw.tb (aC.ff (n C p.1 (ao q) A u P s a.mJ)) λc s' P' S' j B=>?_;have m:=a.on S' j;exact cw.tb (aC.ff (rZ h1 h2 (ao (ai q)) (ai (ai q)) m.mJ)) λf D cS F g G=>cw.aU (cw.of (m.F.kx g) (aC.ff (t A cS D _ _ _ a.ac.room F (B.kx g.q7) G ((r.kx j.q7).kx g.q7))) λb E L s' q=>gJ q)
theorem qd{t mo:fY}(h:nJ t=true):Db [t] mo u=h8 bk:=by cases t<;>first |rfl |exact dP h
theorem oE{t:fY}(h:nJ t=true):Ck [t] u=[(false,a8.Cj t u)]:=by cases t<;>first |rfl |exact dP h
theorem qQ{e t':fY}{bv:Dx}(h:K8 e (ap t') bv.line u=h8 false)(ht:nJ t'=true):a8.exec (.LA [t'] e bv) u=(kK bv>>=λZ=>a8.pa e u>>=λv=>a8.Cj t' u v>>=λZ=>h8 .next):=by haveI a:a8.exec (.LA [t'] e bv) u=(kK bv>>=λZ=>K8 e (ap t') bv.line u>>=λb=>if b then(do evalThenUse e u λv=>assignAll v ((Ck [t'] u).hC (·.2));h8 .next)else a8.pa e u>>=λv=>Db [t'] e u>>=λc=>assignStores u v c ((Ck [t'] u).hC (·.2))):=rfl;apply(a).trans;rw[h,qd ht,oE ht];rfl
theorem Ei{e:xo}(h:fD c9 G.D.ev C nf (.as t x) e=true):∃t' y bv,e=.LA [t'] y bv/\(∀u,a8.exec e u=(kK bv>>=λZ=>a8.pa y u>>=λv=>a8.Cj t' u v>>=λZ=>h8 .next))/\aM c9 G.D.ev C x y=true/\sM c9 G.D.ev C nf t t'=true:=by
 refine ar (aj (I9.symm.trans h)) λp e q=>ar (cu q) λt' z q=>?_;replace e:=z▸e;subst e;refine xJ t' _ _ rfl (λu=>qQ ?_ (ao q)) (ao (ai (ai q))) (ai (ai (ai q)));rcases ct.x2.mp (ao (ai q))with h |h
 ·exact bK h
 ·exact rR h
theorem SS.as(b:EX lp Q vs d x (.ok v U))(ht:TG lp Q vs U t v aL ay):SS lp Q vs d (.as t x) .nx aL ay:=λC nf e h A u P s a=>by
 refine wb (Ei h) λt' y bv Z e q1 q2=>?_;rw[e];exact ba.aU (ba.lift (b C y q1 A u P s a.mJ) λI s' P' S' c r=>cw.next (ht C nf t' q2 A u P' s' I (a.on S' c) r))
theorem SS.PA(b:EX lp Q vs d x (.exc c U)):SS lp Q vs d (.as t x) (.ex c) vs U:=λC nf e h A u P s a=>by
 refine wb (Ei h) λt' y bv Z e q1 q2=>?_;rw[e];exact ba.aU (ba.yY a.F (b C y q1 A u P s a.mJ))
def fG(a:x0)(x y z:b0):Prop:=∀A P d s t I,St G.D P d s->aC G.D bk A VS P d s (.ok (.bn z) d) (inplaceOp a (.bn x t) (.bn y I))
theorem fG.add{x y:b0}:fG .s0 x y (x+y):=λA P d s t I S E L k=>cl (a8.P.iadd_int (S.at (v:=.bn (x+y)) ⟨_,rfl⟩ k))
theorem fG.Kj{x y:b0}:fG .Sub x y (x - y):=λA P d s t I S E L k=>cl (a8.P.isub_int (S.at (v:=.bn (x - y)) ⟨_,rfl⟩ k))
theorem SS.je{i:x0}{fs:am (a5×V)}{p q z:b0}(t:EX lp Q vs d o (.ok (.bs n k) U))(h1:U.ed n k=ap (.qD fs))(w:nX fs j=ap (.bn p))(R:EX lp Q vs U x (.ok (.bn q) ay))(S:fG i p q z){f:am (a5×V)}(h2:ay.ed n k=ap (.qD f))
  (ha:(G.D.H4 n).b6 j=true) (y:f.ah<200):SS lp Q vs d (.je o j i x) .nx vs (ay.fC n k (.qD (oY f j (.bn z)))):=λC nf e h A u P s a=>by
 refine ar (aj (F_.symm.trans h)) λk1 c g=>?_;clear h;subst c;refine ar (aj g) λk2 B g=>ab B (ab (cx (ao g)) (ab (cx (ao (ai g))) ?_));show ba A nf C.sl u P d s _ _ _ (kK k1.2.2.2>>=λ_=>a8.pa k2.1 u>>=λb=>
   a8.ff [b] (kK k2.2.2.atName>>=λ_=>getAttr b (G.D.ev j) true>>=λl=>a8.ff [l] (a8.pa k1.2.2.1 u)>>=λv=>kK k1.2.2.2>>=λ_=>a8.zl [l,v] (inplaceOp i l v))>>=λhM=>
   kK k2.2.2.atName>>=λ_=>a8.ff [hM,b] (setAttr b (G.D.ev j) hM)>>=λ_=>GE [hM,b] [] >>=λ_=>h8 .next)
 refine ba.aU (ba.lift (t C k2.1 (ao (ai (ai g))) A u P s a.mJ) λb s' P' S' D m=>?_);have r:=a.on S' D;clear D B t;obtain rfl:b=_:=m.1;refine ba.lift (VR:=VS) (a:=.bn z) (U:=ay) (aC.ff (aC.aU (aC.tb (rY (G.ok S'.lv) S' h1 w) λu2 F H I J K=>?_))) λwu s3 P3 M N T=>ba.aU ?_
 ·refine aN K λt2 c=>?_;clear K a m S' s P y ha h2 f w h1 fs;subst c;refine aC.tb (aC.ff (R C k1.2.2.1 (ai (ai (ai g))) A u H F (r.on I J).mJ)) λvu W X Y Z O=>aC.aU (aC.zl ?_);refine aN O λt4 c=>?_;clear O Z J I H F r P' s' g k2 u nf;subst c;exact S A X _ W _ _ Y
 ·exact ab (((N.qE n k m.2).2).symm) (ba.lift (aC.ff (rW (G.ok M.lv) M h2 ha y T)) λ_ s5 P5 S5 X5 _ E L k _=>aa (gJ (af (k _ s5 P5 S5 .hJ ((r.F.kx N).kx X5) rfl))))
theorem B8(F:Fm C.sl u vs P d s.bh)(k:rC C u){id:h9}(hn:C.sl[j]?=ap id)(e:vs[j]?=ap v)(f:v≠ .i1)(h:rO (C.kd id)=true)(g:(!(id==("__classdict__" :h9)))=true):∃I,aF P d s.bh v I/\∀(E:a9->a6->Prop) (L:a9->a6->Prop),E I s->ch (dd G.D.bZ G.D.w) A (loadName u id) E L s:=by
 refine ar F.ns λm ns i=>?_;rcases rN k h with z |z |z
 ·refine aD λn l=>ar (i j id v hn e f z) λI a b=>?_;apply l;exact aR I b (λE L q=>cl (DT F.s9 z ns a q))
 ·exact dQ (F.E2 j id v hn e f (.u0 z)) λc I a b r=>aR I r (λE L q=>cl (wpAny_loadName_cell F.s9 z a b q))
 ·exact dQ (F.E2 j id v hn e f (.wl z)) λc I a b r=>aR I r (λE L q=>cl (wpAny_loadName_free F.s9 z a b q (yN g)))
theorem SS.ag{f:x0}{p q z:b0}(l:vs[j]?=ap (.bn p))(m:EX lp Q vs d x (.ok (.bn q) U))(n:fG f p q z):SS lp Q vs d (.ag j f x) .nx (vs.fC j (.bn z)) U:=λC nf e h A u P s a=>by
 refine aD λi b=>?_;refine ar (aj (I_.symm.trans h)) λk1 c g=>?_;subst c;refine ar (aj (ao (ai g))) λk2 o h2=>?_;apply b;refine ab o (ab (cx (ao (ai (ai g)))) ?_);refine aD λi b=>?_;obtain⟨I,⟨H,rfl⟩,r⟩:=B8 (A:=A) a.F.toFm a.k (cx (ao h2)) l (iD V.b4) (ao (ai h2)) (ai (ai h2));apply b;refine ba.aU λE L k k'=>aa (r _ _ (ba.lift (aC.ff (m C k1.2.2.1 (ai (ai (ai g))) A u P s a.mJ)) (λJ t v w y B=>aD λi b=>?_) E L k k'));refine aN B λK c=>?_;subst c;apply b;exact ba.aU (ba.lift (aC.zl (n A v _ t _ _ w)) λM N O D F G=>ba.aU (cw.next (iI D ((a.F.kx y).kx F) (ra (ao g)) (cx (ao h2)) G)))
theorem SS.dl(v:EX lp Q vs d o (.ok w U))(hi:EX lp Q vs U i (.ok I ay))(x:tu w I ay ie):SS lp Q vs d (.dl o i) .nx vs ie:=λC nf e h A u P s a=>by
 refine aD λH n=>?_;refine ar (aj (I8.symm.trans h)) λk1 l g=>?_;clear h;subst l;refine ar (cu g) λy z g=>?_;refine ar (aj g) λp l q=>?_;clear g;subst l;apply n;clear n;refine ab z ?_;show ba A nf C.sl u P d s _ _ _ (kK k1.2>>=λZ=>((a8.pa p.1 u>>=λc=>a8.ff [c] (a8.pa p.2.1 u)>>=λf=>kK p.2.2>>=λZ=>a8.ff [c,f] (delItem c f)>>=λZ=>GE [c,f] [])>>=λZ=>h8 ())>>=λZ=>h8 .next);refine ba.aU (ba.after (λE L k=>aa (cw.tb (v C p.1 (ao (ai q)) A u P s a.mJ) (λc s' P' S' j B=>?_) _ L λs' P' S' j m=>af (k s' P' S' j m))) λs' P' S' j m=>ba.h8 S' m rfl);have r:=a.on S' j;exact cw.tb (aC.ff (hi C p.2.1 (ai (ai q)) A u P' s' r.mJ)) λf D cS F t G=>cw.aU (cw.of (r.F.kx t) (aC.ff (x A cS D _ _ a.ac.room F (B.kx t.q7) G)) λb E L s' q=>gJ q)
end
section
variable{lp:ct}{Q:a5}{C:Cx}{A:ec}{u:Cg}{vs aL p_ ws:am V}{P P':Ph}{d U ay ie:H}{s s':a6}{x:X}{t:T}{ts:am T}{v w:V}{nf j:a5}{is:am a5}{es:am fY}{mo:fY}{tp:Dx}{x1:a5}
abbrev fg:Prop:=∀(k:rC C u),dU u es=cT C es
theorem qe:∀{C u es},@fg C u es:=by
 refine λ{C u es}=>cK (q:=Hd @fg) ((?_:∀C u es,@fg C u es) _ _ _) (C,u,es);intro C u es k;delta cT dU
 congr 1
 funext e
 cases e with
 |r0 id bv=>dsimp only;rw[k.kd]
 |_=>rfl
def vk(e:fY):ct:=match e with | .Starred ..=>true |_=>false
theorem tL:vk=jQ:=by
 funext e
 cases e<;>rfl
abbrev jS{r:bS (am h9)}:Prop:=∀(a:u.jp.s9=.xL) (k:rC C u) (h:rS C es mo=r) (b:r≠ap []),Db [.KK es x1 tp] mo u=h8 r
theorem yb:∀{C u es mo tp x1 r},@jS C u es mo tp x1 r:=by
 refine λ{C u es mo tp x1 r}=>cK (q:=tG @jS) ((?_:∀C u es mo tp x1 r,@jS C u es mo tp x1 r) _ _ _ _ _ _ _) (C,u,es,mo,tp,x1,r);intro C u es mo tp x1 r b k h c;unfold rS at h;cases a:cn mo with
 |bk=>
  rw[a]at h;clear c k b;subst h;cases mo<;>first |rfl |exact oP a
 |ap q=>
  rw[a]at h;clear a;obtain⟨q,rfl⟩:=q;haveI hb:(u.blockKind !=.xL)=false:=by unfold Cg.blockKind;rw[b];rfl
  haveI d:Db [.KK es x1 tp] (.KK q.1 q.2.1 q.2.2) u=(if !(es.ah==2 ||es.ah==3) ||q.1.ah !=es.ah ||u.blockKind !=.xL then h8 bk else if q.1.any vk then h8 bk else
   if(dU u es).ah !=es.ah ||(dU u es).eraseDups.ah !=(dU u es).ah then h8 bk else if q.1.l3 (foldedForSure 8)then h8 bk else if q.1.l3 (constantsAlone 8)then J3 "assign.tuple-of-constant-expressions:order-of-the-stores" else h8 (ap (dU u es))):=by
   rfl
  apply(d).trans;rw[qe k,hb,ct.or_false,tL];clear d;dsimp only at h
  revert h
  generalize(!(es.ah==2 ||es.ah==3) ||q.1.ah !=es.ah)=c1;generalize q.1.any jQ=c2;generalize((cT C es).ah !=es.ah ||(cT C es).eraseDups.ah !=(cT C es).ah)=c3;generalize q.1.l3 (foldedForSure 8)=c4;generalize q.1.l3 (constantsAlone 8)=c5;intro h;clear hb q k b;cases c1
  ·cases c2
   ·cases c3
    ·cases c4
     ·cases c5
      ·fail"r"
      ·exact kk h.symm c
     ·fail"r"
    ·fail"r"
   ·fail"r"
  ·fail"r"
theorem zN{e:fY}{bv:Dx}(h:da e=true){r:bS (am h9)}(a:Db [.KK es x1 tp] e u=h8 r):
  a8.exec (.LA [.KK es x1 tp] e bv) u=(kK bv>>=λZ=>a8.pa e u>>=λv=>assignStores u v r [a8.Cj (.KK es x1 tp) u]):=by haveI c:a8.exec (.LA [.KK es x1 tp] e bv) u=(kK bv>>=λZ=>K8 e (ap (.KK es x1 tp)) bv.line u>>=λb=>if b then(do evalThenUse e u λv=>assignAll v ((Ck [.KK es x1 tp] u).hC (·.2));h8 .next)else a8.pa e u>>=λv=>Db [.KK es x1 tp] e u>>=λd=>assignStores u v d [a8.Cj (.KK es x1 tp) u]):=rfl;apply(c).trans;rw[bK h,a];rfl
theorem dh{e:fY}(h:bc e=true):Ck (e::es) u=(false,a8.Cj e u)::Ck es u:=by cases e<;>first |rfl |exact dP h
theorem gR:∀{es:am fY},es.l3 bc=true->(Ck es u).findIdx? (·.1)=bk/\(Ck es u).ah=es.ah:=by
 intro c
 induction c with
 |iv=>
  exact λZ=>⟨rfl,rfl⟩
 |d2 e es b=>
  intro h;rw[am.all_cons]at h;haveI a:=(b (ai h)).1;exact ab (dh (ao h)) (⟨by refine((am.findIdx?_cons)).trans ?_;rw[a];rfl,b5 a5.Fy ((b (ai h)).2)⟩)
theorem kE{a:e9}{us:am a9}{E:y5->a6->Prop}{L:a9->a6->Prop}(hh:A.z4=bk)(ht:IsTup s.bh a us.eb)(hn:es.ah=us.ah)(hs:es.l3 bc=true)
  (h:∀h',(∀b x,s.bh.ck b=ap x->h'.ck b=ap x)->ch (dd G.D.bZ G.D.w) A (assignInOrder ((Ck es u).hC (·.2)) us) E L {s with bh:=h'}):ch (dd G.D.bZ G.D.w) A (a8.Cj (.KK es x1 tp) u (.bs a)) E L s:=by haveI p1:=(gR (u:=u) hs).1;haveI p2:=(gR (u:=u) hs).2;rw[assign_Tuple];refine aa (ax ?_);unfold unpack;exact ab p1 (ab (p2.trans (hn.trans am.lb.symm)) (aa (ak (cl (unpackItems_tuple hh ht λh' c=>h h' λb o e=>c b o (a5.sK (d4.JL e)) e)))))
variable(lp Q)in
def fF(vs:am V)(d:H)(ts:am T)(ws:am V)(aL:am V)(U:H):Prop:=∀C nf es,pL c9 G.D.ev C nf ts es=true->∀A u P s us,fH lp Q C nf A u vs P d s->aA P d s.bh ws us->cw A nf C.sl u P d s aL U (assignInOrder ((Ck es u).hC (·.2)) us)
theorem fF.iv:fF lp Q vs d [] [] vs d:=λC nf es h A u P s us a r=>by
 obtain rfl:es=[]:=am.sn.mp h;exact λE L k=>af (k s P a.hS .hJ a.F)
theorem fF.d2(ht:TG lp Q vs d t w aL U)(hs:fF lp Q aL U ts ws p_ ay):fF lp Q vs d (t::ts) (w::ws) p_ ay:=λC nf es h A u P s us a r=>by
 cases es with
 |iv=>exact dP h
 |d2 e es=>
  refine dQ r λI c f g i=>?_;subst f;refine ab (dh (ao h)) ?_;exact λE L k=>aa (ak (ht C nf e (ao (ai h)) A u P s I a g _ L λs' P' S' b j=>hs C nf es (ai (ai h)) A u P' s' c (a.next S' b j) (i.kx b.q7) E L λl cS m n=>k l cS m (b.trans n)))
theorem eX:∀{ts:am T} {es:am fY},pL c9 G.D.ev C nf ts es=true->ts.ah=es.ah/\es.l3 bc=true:=by
 intro c
 induction c with
 |iv=>
  intro es h;obtain rfl:es=[]:=am.sn.mp h;exact⟨rfl,rfl⟩
 |d2 t ts a=>
  intro es h;cases es with
  |iv=>exact dP h
  |d2 e es=>
   haveI b:=(a (ai (ai h))).2;exact⟨b5 a5.Fy ((a (ai (ai h))).1),by apply(am.all_cons).trans;rw[ao h,b];rfl⟩
theorem SS.ast(l:EX true Q vs d x (.ok (.KS ws) U))(hn:ts.ah=ws.ah)(ht:fF true Q vs U ts ws aL ay):SS true Q vs d (.ast ts x) .nx aL ay:=λC nf e h A u P s a=>by
 refine aD λo i=>?_;refine ar (aj (F8.symm.trans h)) λk1 m g=>?_;clear h;subst m;refine ar (cu g) λt' n g=>?_;refine ar (aj g) λk2 m g=>?_;subst m;apply i;clear i;refine ab n ?_;have c:=ai (ai (ai (ai g)));rw[zN (ao g) (yb a.F.s9 a.k (bS.Hx.mp (ao (ai g))) (λz=>dE z))];refine ba.aU (ba.lift (l C k1.2.1 (ao c) A u P s a.mJ) λI s' P' S' p r=>aD λo i=>?_);clear g n;obtain⟨b,us,rfl,f,tp,r⟩:=r;apply i;clear i;haveI q:=a.on S' p;haveI t:=(eX (ai c)).1;refine cw.next λE L k=>kE (a.ac.hd rfl) tp (t.symm.trans (hn.trans r.ah)) ((eX (ai c)).2) λh' l=>?_;haveI j:=S'.h.hA l;exact ht C nf k2.1 (ai c) A u P' {s' with bh:=h'} us (q.on ⟨j.1,S'.r⟩ j.2) (r.kx j.2.q7) E L λv w y B=>k v w y (j.2.weak.trans B)
def bP:am a5->am V->am V->am V
 | [],_,vs=>vs
 |i::is,ws,vs=>match ws with | []=>vs |w::ws=>bP is ws (vs.fC i w)
abbrev SS.NM:Prop:=∀(a:EX true Q vs d x (.ok (.KS ws) U)) (hn:ws.ah=is.ah),SS true Q vs d (.NN is x) .nx (bP is.E5 ws.E5 vs) U
end
structure Tn(P:Ph)(as:am e9)(h h':d4):Prop where
 k0:∀a,a∈as->P.k0 a=.j2
 py:∀a,a∈as->G.D.hE.ck a=bk
 mm:∀a,a∈as->∃o,h.ck a=ap o/\o.mm≠ .fX "tuple" /\o.mm≠ .fX "slice"
 only:∀b o,b∉as->h.ck b=ap o->h'.ck b=ap o
section
variable{fr:Prop}{P P':Ph}{d U:H}{h h' Co:d4}{as:am e9}{ad:bS e9}{sl:am h9}{u:Cg}{vs:am V}{nf x Q:a5}{lp:ct}{A:ec}{s:a6}
theorem Tn.q7(x:Tn P as h h'):o8 P P d d h h':=⟨λt k l=>⟨l,rfl⟩,λb o e f c=>⟨x.only b o (λm=>by
 refine lI (x.mm b m) λa q q1 q2=>?_;obtain rfl:o=a:=bS.ap.zv (e.symm.trans q);exact c.ef q1 q2) e,f⟩⟩
theorem Tn.hT(x:Tn P as h h'){b:e9}{o:Do}{w:GX}(n:P.k0 b=w)(a:w≠ .j2)(e:h.ck b=ap o):h'.ck b=ap o:=x.only b o (λm=>a (n.symm.trans (x.k0 b m))) e
theorem iz.tn(S:iz G.D fr P d h)(x:Tn P as h h'):iz G.D fr P d h':=
 ⟨λb t k q=>(S.min b t k q).DO λo e=>x.hT q (iD GX.b4) e,S.low,λf b M q=>(S.qL f b M q).DO λo e=>⟨x.hT q (iD GX.b4) e.1,e.2⟩,
  λb o e=>⟨x.only b o (λm=>oP (e.symm.trans (x.py b m))) (S.tg b o e).1,(S.tg b o e).2⟩,
  λt k o e=>⟨(S.ed t k o e).1.hC (λr=>r.kx x.q7) (S.ed t k o e).2 rfl λb y a c=>⟨x.hT a (iD GX.b4) c,a⟩,(S.ed t k o e).2⟩,S.fresh,S.DD.kx (λZ e=>e) λb o f e=>⟨x.hT f (iD GX.b4) e,f⟩⟩
theorem Fm.tn(F:Fm sl u vs P d h)(x:Tn P as h h'):Fm sl u vs P d h':=by
 refine ar F.ns λm hn k=>?_;have f:∀{c M y},P.k0 c=.f5 M->h.wP c y->h'.wP c y:=λo q=>wP.vT q λob e=>⟨ob.vT,x.hT o (iD GX.b4) e⟩;refine⟨F.k0,⟨m,Ns.vT hn λo e=>⟨o.vT,x.hT F.k0 (iD GX.b4) e⟩,λi n v a b c Q=>(k i n v a b c Q).DO λI z=>⟨z.1,z.2.kx x.q7⟩⟩,λn c a=>?_,λi n v a b c Q=>?_,F.s9,F.glob,F.Ly,F.uE⟩
 ·refine aD λs l=>?_;obtain⟨⟨M,o⟩,y,q⟩:=F.np n c a;apply l;exact⟨⟨M,o⟩,y,f o q⟩
 ·exact dQ (F.E2 i n v a b c Q) λg I j p r=>eN g I j ((F.np n g j).1.ef λZ o=>f o p) (r.kx x.q7)
theorem lE.tn(F:lE nf sl u vs P d h)(x:Tn P as h h'):lE nf sl u vs P d h':=⟨F.toFm.tn x,F.f5,F.eU,F.apart,F.has,F.nd,F.GQ⟩
theorem iB.tn(a:iB Q lp A P h nf)(x:Tn P as h h'):iB Q lp A P h' nf:=by refine aD λd b=>ar a.un λl f g=>?_;apply b;refine⟨⟨l,f,λe i=>aD λd b=>?_⟩,a.Lw,a.FD,a.hd,a.gd⟩;obtain⟨k,ad,o,j,c,m,n⟩:=g e i;apply b;exact⟨k,ad,o,j,c,x.hT c nofun m,n⟩
theorem At.tn(X:At ad P P' d U h h')(n:∀a,a∈as->h.ck a=bk)(x:Tn P' as h' Co):At ad P P' d U h Co:=by have py:∀{b o},h.ck b=ap o->b∉as:=λe m=>oP (e.symm.trans (n _ m));exact⟨X.qE,λb o e f=>x.only b o (py e) (X.j1 b o e f),λb o M e f z=>(X.f5 b o M e f z).DO λsl g=>x.only b _ (py e) g,λb o e=>(X.kG b o e).DO λc g=>x.only b c (py e) g,X.k0⟩
theorem o9.tn{C:Cx}{h':d4}{tk:a5}(a:o9 lp Q C A u vs P d s)(x:Tn P as s.bh h'):o9 lp Q C A u vs P d {s with bh:=h',hO:=tk}:=⟨⟨a.S.h.tn x,a.S.r⟩,a.F.tn x,a.k,a.ac.tn x⟩
theorem fH.tn{C:Cx}{h':d4}{tk:a5}(a:fH lp Q C nf A u vs P d s)(x:Tn P as s.bh h'):fH lp Q C nf A u vs P d {s with bh:=h',hO:=tk}:=⟨⟨a.hS.h.tn x,a.hS.r⟩,a.F.tn x,a.k,a.ac.tn x,a.top⟩
theorem Tn.one{a:e9}{o:Do}{T:z8}(e:h.ck a=ap o)(c:o.mm=.fX T)(d:(T== "tuple")=false)(g:(T== "slice")=false)(f:P.k0 a=.j2)(n:G.D.hE.ck a=bk)(y:∀b o,b≠a->h.ck b=ap o->h'.ck b=ap o):Tn P [a] h h':=
 ⟨λb m=>am.e0.mp m▸f,λb m=>am.e0.mp m▸n,λb m=>mM o (ab (am.e0.mp m) e) (λz=>(by replace z:=c▸z;clear m b y n f g c e o a;cases z;cases d)) (λz=>(by replace z:=c▸z;clear m b y n f d c e o a;cases z;cases g)),λb o m=>y b o λz=>m (am.e0.ow z)⟩
end
structure xu(A:ec)(tt:ct)(l3:am V)(ok:H->Prop)(it:e9)(as:am e9)(be:a5->Ph->H->d4->Prop):Prop where
 next:∀i P d s v,l3[i]?=ap v->be i P d s.bh->St G.D P d s->ok d->∀(E:bS a9->a6->Prop) (L:a9->a6->Prop),
  (∀I h1 tk,Tn P as s.bh h1->aF P d h1 v I->(∀target (E:y5->a6->Prop) (L:a9->a6->Prop),(tt=true->target.b4=25)->(∀h2,Tn P as h1 h2->be (i+1) P d h2->E () {s with bh:=h2,hO:=tk})->
   ch (dd G.D.bZ G.D.w) A (GM target (.bs it) I) E L {s with bh:=h1,hO:=tk})->E (ap I) {s with bh:=h1,hO:=tk})->ch (dd G.D.bZ G.D.w) A (pyNext (.bs it)) E L s
 done:∀i P d s,l3[i]?=bk->be i P d s.bh->St G.D P d s->ok d->∀(E:bS a9->a6->Prop) (L:a9->a6->Prop),(∀h1 tk,Tn P as s.bh h1->E bk {s with bh:=h1,hO:=tk})->ch (dd G.D.bZ G.D.w) A (pyNext (.bs it)) E L s
 j1:∀i P d h P' U h' ad,be i P d h->At ad P P' d U h h'->be i P' U h'
 y6:∀i P d s,be i P d s.bh->∀(E:a9->a6->Prop) (L:a9->a6->Prop),E (.bs it) s->ch (dd G.D.bZ G.D.w) A (pyIter (.bs it)) E L s
 only:∀i P d h h' b,be i P d h->Tn P [b] h h'->b∉as->be i P d h'
 has:∀i P d h,be i P d h->∀a,a∈as->∃o,h.ck a=ap o
theorem B7{M:z3}{A:ec}{s:a6}{c:KM}{R:r3->a6->Prop}(hd:pk c=false)(g:c.quiet=true)(be:a5->a6->Prop)
  (d:∀n s,be n s->ch M (A.under c) (M.den c) (λb s'=>match b with | .done f=>R (.ok f) s' | .J2 a=>(a=c/\∃m,m<n/\be m s')\/(a.quiet=true/\az M A a R s')) (λe s'=>R (.B3 e) s') s)
  (n:a5) (h:be n s):az M A c R s:=by
 induction n using a5.strongRecOn generalizing s with
 |ind n i=>
  refine aI hd (aw (d n s h) (λb s' hf=>?_) λZ Z h'=>h');clear h d hd s;cases b with
  |done f=>exact hf
  |J2 a=>
   rcases hf with⟨rfl,m,hm,hI⟩ |hf
   ·exact⟨g,i m hm hI⟩
   ·exact hf
def EP(R:r3->a6->Prop)(a:a6->Prop)(f:Flow)(s:a6):Prop:=match f with
 | .next | .cont=>a s
 | .brk=>R (.ok .next) s
 | .ret v=>R (.ok (.ret v)) s
abbrev nU{bZ:mS}{w:tq}{A:ec}{s:a6}{R:r3->a6->Prop}{a:fY}{it:a9}{lV:am xo}{u:Cg}(be:a5->a6->Prop):Prop:=∀(e:∀n s,be n s->ch (dd bZ w) A (pyNext it) (λr b=>match r with
   |bk=>R (.ok .next) b
   |ap v=>ch (dd bZ w) A (GM a it v) (λZ c=>ch (dd bZ w) A (a8.Cj a u v) (λZ d=>ch (dd bZ w) A (a8.KE lV u) (EP R λs=>∃m,m<n/\be m s) (fj (dd bZ w) A u R) d) (fj (dd bZ w) A u R) c) (fj (dd bZ w) A u R) b) (fj (dd bZ w) A u R) s) (n:a5) (h:be n s),az (dd bZ w) A (.forLoop a it lV [] u) R s
theorem FI:∀{bZ w A s R a it lV u} (be),@nU bZ w A s R a it lV u be:=by
 refine λ{bZ w A s R a it lV u} (be)=>cK (q:=kD @nU) ((?_:∀bZ w A s R a it lV u be,@nU bZ w A s R a it lV u be) _ _ _ _ _ _ _ _ _ _) (bZ,w,A,s,R,a,it,lV,u,be);intro bZ w A s R a it lV u be d n h;refine B7 rfl rfl be (λn s e=>?_) n h;show ch _ A ((forTurn a it lV [] u).onRaise (λx=>do K2 x u;Kh x)) _ _ s;refine aX (aa (ax (aa (aX (aw (d n s e) (λr j c=>?_) λZ Z h'=>ax h')))));cases r with
 |bk=>
  exact af (.wl ⟨rfl,aI rfl (aa (aX (af (af c))))⟩)
 |ap v=>
  refine aa (aw c (λZ k g=>aa (aw g (λZ l i=>aa (aw i (λf m b=>?_) λZ Z h'=>h')) λZ Z h'=>h')) λZ Z h'=>h');cases f with
  |next=>exact af (.u0 ⟨rfl,b⟩)
  |cont=>exact af (.u0 ⟨rfl,b⟩)
  |brk=>exact af b
  |ret v=>exact af b
def vt(fl:Fl):Fl:=match fl with | .br=> .nx |f=>f
section
variable(lp:ct)(Q:a5)(ok:H->Prop)(lj:V->am V->am V->Prop)(lV:am S)
def aV:am V->am V->H->Fl->am V->H->Prop
 | [],vs,d,fl,aL,U=>ok d/\fl=.nx/\aL=vs/\U=d
 |v::r,vs,d,fl,aL,U=>ok d/\∃cb f a gK,lj v vs cb/\SB lp Q cb d lV f a gK/\((f=.nx/\aV r a gK fl aL U)\/(f≠ .nx/\fl=vt f/\aL=a/\U=gK))
end
section
variable{lp:ct}{Q:a5}{C:Cx}{A:ec}{u:Cg}{vs aL p_ ws:am V}{P P' P0:Ph}{d U ay gD:H}{h0:d4}{s s':a6}{x:X}{v w:V}{nf j:a5}{fl:Fl}{ok:H->Prop}{lj:V->am V->am V->Prop}{b:am S}{b':am xo}{l3:am V}{tt:ct}{it:e9}{as:am e9}{be:a5->Ph->H->d4->Prop}{t':fY}
theorem aV.iv(h:ok d):aV lp Q ok lj b [] vs d .nx vs d:=mN h rfl rfl rfl
theorem aV.d2{cb a:am V}(h:ok d)(hb:lj v vs cb)(hs:SB lp Q cb d b .nx a U)(c:aV lp Q ok lj b l3 a U fl aL ay):aV lp Q ok lj b (v::l3) vs d fl aL ay:=⟨h,_,_,_,_,hb,hs,.u0 ⟨rfl,c⟩⟩
theorem aV.stop{cb:am V}{f:Fl}(h:ok d)(hb:lj v vs cb)(hs:SB lp Q cb d b f aL U)(hf:f≠ .nx):aV lp Q ok lj b (v::l3) vs d (vt f) aL U:=⟨h,_,_,_,_,hb,hs,.wl ⟨hf,rfl,rfl,rfl⟩⟩
def Binds(lp:ct)(Q:a5)(C:Cx)(nf:a5)(e:fY)(lj:V->am V->am V->Prop):Prop:=∀v vs cb,lj v vs cb->∀A u P d s I,fH lp Q C nf A u vs P d s->aF P d s.bh v I->cw A nf C.sl u P d s cb d (a8.Cj e u I)
abbrev lU:Prop:=∀(g:Binds lp Q C nf t' lj) (hb:cD c9 G.D.ev C nf b b'=true) (T:xu A tt l3 ok it as be) (h:tt=true->t'.b4=25) (i:At (ap u.gX) P0 P gD d h0 s.bh) (j:∀a,a∈as->h0.ck a=bk) (a:fH lp Q C nf A u vs P d s) (k:be 0 P d s.bh) (l:aV lp Q ok lj b l3 vs d fl aL U) (R:r3->a6->Prop) (hE:∀c e s' P',fl=.ex c->dj u.gX A c P0 P' gD U h0 e s'->lE nf C.sl u aL P' U s'.bh->fj (dd G.D.bZ G.D.w) A u R e s') (m:∀f s' P',St G.D P' U s'->At (ap u.gX) P0 P' gD U h0 s'.bh->lE nf C.sl u aL P' U s'.bh->MD P' U s'.bh fl f->R (.ok f) s'),az (dd G.D.bZ G.D.w) A (.forLoop t' (.bs it) b' [] u) R s
theorem Cr:∀{lp Q C A u vs aL P P0 d U gD h0 s nf fl ok lj b b' l3 tt it as be t'},@lU lp Q C A u vs aL P P0 d U gD h0 s nf fl ok lj b b' l3 tt it as be t':=by
 refine λ{lp Q C A u vs aL P P0 d U gD h0 s nf fl ok lj b b' l3 tt it as be t'}=>cK (q:=Du @lU) ((?_:∀lp Q C A u vs aL P P0 d U gD h0 s nf fl ok lj b b' l3 tt it as be t',@lU lp Q C A u vs aL P P0 d U gD h0 s nf fl ok lj b b' l3 tt it as be t') _ _ _ _ _ _ _ _ _ _ _ _ _ _ _ _ _ _ _ _ _ _ _ _ _ _) (lp,Q,C,A,u,vs,aL,P,P0,d,U,gD,h0,s,nf,fl,ok,lj,b,b',l3,tt,it,as,be,t');intro lp Q C A u vs aL P P0 d U gD h0 s nf fl ok lj b b' l3 tt it as be t' X hb T Y Z H a t hw R hE J;refine FI (λn s1=>∃i cb P1 dw,i+n=l3.ah/\fH lp Q C nf A u cb P1 dw s1/\At (ap u.gX) P0 P1 gD dw h0 s1.bh/\be i P1 dw s1.bh/\aV lp Q ok lj b (l3.zt i) cb dw fl aL U) (λn s1 t=>aD λj h=>?_) l3.ah (KA 0 vs P d (a5.pt _) a Z t hw);obtain⟨i,cb,P1,dw,hn,a1,K,y,h1⟩:=t;apply h;clear h;clear t hw a Z s d P vs;cases k:l3.zt i with
 |iv=>
  rw[k]at h1;refine aD λj h=>?_;refine xN h1 λst aE bj sI=>?_;clear hn hE Y hb X;subst aE;subst bj;subst sI;apply h;clear h;exact T.done i P1 _ s1 (am.Ea.ow (am.drop_eq_nil_iff.mp k)) y a1.hS st _ _ λh1 tk x=>J .next {s1 with bh:=h1,hO:=tk} P1 (a1.tn x).hS (K.tn H x) (a1.tn x).F rfl
 |d2 x xr=>
  rw[k]at h1;refine aD λj h=>?_;obtain⟨st,oQ,f,Oa,ie,e2,e3,q⟩:=h1;apply h;clear h;have B:l3[i]?=ap x:=by refine ab ((am.head?_drop).symm) (ab k ?_);rfl
  refine T.next i P1 dw s1 x B y a1.hS st _ _ λI h2 tk x1 L lt=>lt _ _ _ Y λh3 l M=>?_;haveI D:=(a1.tn (tk:=tk) x1).tn (tk:=tk) l;have N:=(K.tn H x1).tn H l;refine X x cb oQ e2 A u P1 dw _ I D (L.kx l.q7) _ _ λs4 P4 O m S=>?_;have E:=N.trans m;have F:=D.next O m S;haveI V:=T.j1 _ _ _ _ _ _ _ _ M m;refine e3 C nf b' hb A u P4 s4 F _ _ (λg G o W p r w=>?_) λc e G o z w r=>?_
  ·refine aD λj h=>?_;clear S m O N D M l h3 lt L x1 st a1 y e3 e2 K cb hE;rcases q with⟨rfl,h2⟩ |⟨hf,rfl,rfl,rfl⟩<;>refine h ?_<;>clear h
   ·clear j tk I s1 P1;obtain rfl:g=.next:=w;haveI xC:=(am.hv.mp B).1;exact⟨n - 1,a5.sub_lt (a5.pos_of_lt_add_right (hn▸xC)) a5.one_pos,i+1,Oa,o,ie,(a5.t0 i 1 (n - 1)).trans ((b5 (i+·) (a5.add_sub_cancel' (a5.pos_of_lt_add_right (hn▸xC)))).trans hn),F.next W p r,E.trans p,T.j1 _ _ _ _ _ _ _ _ V p,(am.tail_drop).symm▸k▸h2⟩
   ·clear h2 k V T j F tk B x s1 P1 oQ;cases f with
    |nx=>exact kk rfl hf
    |br=>clear hf j I;obtain rfl:g=.brk:=w;exact J .next G o W (E.trans p) r rfl
    |rt v=>clear hf j;obtain⟨I,rfl,w⟩:=w;exact J _ G o W (E.trans p) r ⟨I,rfl,w⟩
    |ex c=>exact w.ef
  ·refine aD λj h=>?_;clear k V T S m O F N D M l h3 lt L x1 st a1 y B;rcases q with⟨rfl,h2⟩ |⟨hf,rfl,rfl,rfl⟩<;>refine h ?_<;>clear h
   ·exact bf Fl.b4 z rfl
   ·clear hf j I tk;subst z;exact hE c e G o rfl (w.Lz E) r
end
section
variable{P:Ph}{d:H}{s:a6}{A:ec}{it:e9}{T:z8}{l3:am V}{ok:H->Prop}{t k:a5}
theorem wJ{o:Do}{b:fY}{I:a9}{E:y5->a6->Prop}{L:a9->a6->Prop}(d:s.bh.ck it=ap o)(e:o.mm=.fX T)(f:["enumerate","zip","dict_itemiterator","dict_reverseitemiterator","odict_iterator","itertools.zip_longest","itertools.pairwise"].b6 T=false)
  (q:E () s):ch (dd G.D.bZ G.D.w) A (GM b (.bs it) I) E L s:=by
 have c:ch (dd G.D.bZ G.D.w) A (do
   let(.bs r,.bs a):=((a9.bs it,I):a9×a9) |return
   let o←load r
   match o.mm,o.hy with
   | .fX n,.j3 vs=>
    if ["enumerate","zip","dict_itemiterator","dict_reverseitemiterator","odict_iterator","itertools.zip_longest","itertools.pairwise"].b6 n&&vs[0]?==ap (wv a)then
     rule "for.unpacks-the-owned-tuple"
     updateField r 0 .bk
   |_,_=>h8 ()) E L s:=by
  cases I with
  |bs a=>
   refine aa (cJ d (ab e ?_));cases o.hy with
   |j3 vs=>dsimp only;exact ab f (af q)
   |_=>exact af q
  |_=>exact af q
 cases b with
 |KK es n p=>exact c
 |am es p=>exact c
 |_=>exact af q
theorem xu.rE{be:a5->Ph->H->d4->Prop}(t:["enumerate","zip","dict_itemiterator","dict_reverseitemiterator","odict_iterator","itertools.zip_longest","itertools.pairwise"].b6 T=false)(g:(T== "tuple")=false)(j:(T== "slice")=false)
  (mm:∀i P d h,be i P d h->∃o,h.ck it=ap o/\o.mm=.fX T)
  (next:∀i P d s v,l3[i]?=ap v->be i P d s.bh->St G.D P d s->ok d->∀(E:bS a9->a6->Prop) (L:a9->a6->Prop),
   (∀I h1 tk,(∀b o,b≠it->s.bh.ck b=ap o->h1.ck b=ap o)->(o8 P P d d s.bh h1->aF P d h1 v I/\be (i+1) P d h1)->E (ap I) {s with bh:=h1,hO:=tk})->ch (dd G.D.bZ G.D.w) A (pyNext (.bs it)) E L s)
  (done:∀i P d s,l3[i]?=bk->be i P d s.bh->St G.D P d s->ok d->∀(E:bS a9->a6->Prop) (L:a9->a6->Prop),(∀h1 tk,(∀b o,b≠it->s.bh.ck b=ap o->h1.ck b=ap o)->E bk {s with bh:=h1,hO:=tk})->ch (dd G.D.bZ G.D.w) A (pyNext (.bs it)) E L s)
  (j1:∀i P d h P' U h' ad,be i P d h->P.k0 it=.j2->At ad P P' d U h h'->be i P' U h')
  (y6:∀i P d s,be i P d s.bh->∀(E:a9->a6->Prop) (L:a9->a6->Prop),E (.bs it) s->ch (dd G.D.bZ G.D.w) A (pyIter (.bs it)) E L s)
  (only:∀i P d h h' b,be i P d h->Tn P [b] h h'->b≠it->be i P d h'):xu A false l3 ok it [it] (λi P d h=>be i P d h/\P.k0 it=.j2/\G.D.hE.ck it=bk)where
 next i P d s v hx:=λf S st E L k=>next i P d s v hx f.1 S st E L λI h1 tk y z=>by
  refine ar (mm _ _ _ _ f.1) λo e c=>?_;have x:=Tn.one e c g j f.2.1 f.2.2 y;obtain⟨r,l⟩:=z x.q7;exact k I h1 tk x r λu E L Z q=>ar (mm _ _ _ _ l) λw n p=>wJ n p t (q h1 (Tn.one n p g j f.2.1 f.2.2 λZ Z Z e=>e) (ix l f.2.1 f.2.2))
 done i P d s hx:=λf S st E L k=>done i P d s hx f.1 S st E L λh1 tk y=>by
  exact ar (mm _ _ _ _ f.1) λo e c=>k h1 tk (Tn.one e c g j f.2.1 f.2.2 y)
 j1 i P d h P' U h' ad:=λf X=>by
  exact ar (mm _ _ _ _ f.1) λo e c=>ix (j1 i P d h P' U h' ad f.1 f.2.1 X) ((X.k0 it o e).trans f.2.1) f.2.2
 y6 i P d s hI:=y6 i P d s hI.1
 only i P d h h' b hI x nb:=⟨only i P d h h' b hI.1 x λz=>nb (am.e0.ow z),hI.2⟩
 has i P d h hI a m:=(mm i P d h hI.1).DO λo e=>am.e0.mp m▸e.1
theorem yj{a:e9}{h h':d4}(x:d4.nT a h h'):∀b o,b≠a->h.ck b=ap o->h'.ck b=ap o:=λb o n e=>(x.2 b n).trans e
theorem Tn.at{a b:e9}{h h':d4}{o:Do}(x:Tn P [b] h h')(n:b≠a)(e:h.ck a=ap o):h'.ck a=ap o:=x.only a o (λm=>n (am.e0.mp m).symm) e
theorem kM{α:Type}{l:am α}{i:a5}(h:l[i]?=bk):l.ah<=i:=am.Ea.mp h
theorem te{α:Type}{us:am α}{i:a5}(h:us.ah<=i):us.eb[i]?=bk:=am.getElem?_toArray.trans (am.Ea.ow h)
theorem zc(c:A.z4=bk):xu A false l3 (λd=>d.ed t k=ap (.dG l3)) it [it] (λi P d h=>(h.IsListIter it (P.al t k) i/\qE d t k)/\P.k0 it=.j2/\G.D.hE.ck it=bk):=xu.rE (by decide) (by decide) (by decide)
 (λi P d h z=>z.1.DO λo w=>⟨w.1,w.2.1⟩)
 (λi P d s v a z S st E L q=>by
  refine aO (S.dG st) λus n g r=>ar (r.LL a) λI j l=>?_;exact cl (wpAny_pyNext_list_item z.1 ⟨_,g,rfl,n,rfl⟩ (kS j) λh' m hs=>q I h' s.hO (yj hs) λx=>ix (l.kx x) m z.2))
 (λi P d s a z S st E L q=>by
  refine aO (S.dG st) λus n g r=>?_;exact cl (wpAny_pyNext_list_end c z.1 ⟨_,g,rfl,n,rfl⟩ (te (r.ah▸kM a)) λh' hs=>q h' s.hO λb o n e=>hs b o n e))
 (λi P d h P' U h' ad z f X=>⟨z.1.DO λo w=>⟨X.j1 it o w.1 f,w.2.1,ab ((X.qE t k z.2).2) w.2.2⟩,(X.qE t k z.2).1⟩)
 (λi P d s p E L q=>cl (wpAny_pyIter_listiter p.1 q))
 (λi P d h h' b z x nb=>⟨z.1.DO λo w=>⟨x.at nb w.1,w.2⟩,z.2⟩)
def bInts(l:am cy):am V:=l.hC bI
def jo(lo a:b0)(c:a5):am V:=(am.range c).hC λ(i:a5)=> .bn (lo+a*(i:b0))
theorem ym{lo a:b0}{c i:a5}(h:i<c):(jo lo a c)[i]?=ap (.bn (lo+a*i)):=by refine((am.getElem?_map)).trans ?_;rw[am.getElem?_range h];rfl
theorem fh{lo a:b0}{c:a5}:(jo lo a c).ah=c:=by unfold jo;rw[am.fz];exact ab am.length_range rfl
theorem wK{lo a:b0}{c:a5}(m:A.z4=bk):xu A false (jo lo a c) (λZ=>Fw) it [it] (λi P d h=>IsRangeIter h it (lo+a*i) ((c:b0) - i) a/\P.k0 it=.j2/\G.D.hE.ck it=bk):=xu.rE (by decide) (by decide) (by decide)
 (λi P d h g=>aR _ g rfl)
 (λi P d s v j g S st E L q=>by
  have l:=a5.x3 (am.hv.mp j).1 fh;obtain rfl:_=v:=bS.ap.zv ((ym l).symm.trans j);refine cl (wpAny_pyNext_range_item g (b0.sub_pos_of_lt (b0.hB.ow l)) λh' p hs=>q _ h' _ (yj hs) λx=>⟨⟨_,rfl⟩,ab (show lo+a*((i+1:a5):b0)=lo+a*i+a by rw[b0.natCast_add,b0.mul_add,b0.t0];simp) (ab ((b0.sub_sub (c:b0) i 1).symm) ?_)⟩);exact p)
 (λi P d s j g S st E L q=>cl (wpAny_pyNext_range_end m g (b0.sub_nonpos_of_le (b0.sp.ow (a5.bb (a5.mZ (fh).symm) (kM j)))) λh' hs=>q h' s.hO λb o n e=>hs b o n e))
 (λi P d h P' U h' ad k f X=>X.j1 it _ k f)
 (λi P d s r E L q=>cl (wpAny_pyIter_rangeiter r q))
 (λi P d h h' b k x nb=>x.at nb k)
end
def Es(v:V)(d:H)(l3:am V)(ok:H->Prop):Prop:=∀A P s I,A.z4=bk->St G.D P d s->aF P d s.bh v I->∀(E:a9->a6->Prop) (L:a9->a6->Prop),
 (∀it s' be,St G.D P d s'->At bk P P d d s.bh s'.bh->s.bh.ck it=bk->xu A false l3 ok it [it] be->be 0 P d s'.bh->E (.bs it) s')->ch (dd G.D.bZ G.D.w) A (pyIter I) E L s
def IT(lp:ct)(Q:a5)(vs:am V)(d:H)(x:X)(tt:ct)(l3:am V)(ok:H->Prop)(U:H):Prop:=∀C e,aM c9 G.D.ev C x e=true->∀A u P s,o9 lp Q C A u vs P d s->A.z4=bk->∀(E:a9->a6->Prop) (L:a9->a6->Prop),
 (∀it s' P' as be,St G.D P' U s'->At bk P P' d U s.bh s'.bh->(∀a,a∈as->s.bh.ck a=bk)->xu A tt l3 ok it as be->be 0 P' U s'.bh->E (.bs it) s')->ch (dd G.D.bZ G.D.w) A (a8.pa e u) (λx b=>ch (dd G.D.bZ G.D.w) A (pyIter x) E L b) L s
section
variable{lp:ct}{Q:a5}{C:Cx}{A:ec}{u:Cg}{vs aL p_ ws l3:am V}{P P':Ph}{d U ay:H}{s s':a6}{x:X}{v w:V}{nf j t k:a5}{fl:Fl}{ok:H->Prop}{b:am S}{is:am a5}{es:am fY}{xs:am X}
theorem St.cW(S:St G.D P d s){ob:Do}(hf:ob.isFreed=false){tk:a5}:St G.D P d {s with bh:=s.bh.o4 ob,hO:=tk}/\At bk P P d d s.bh (s.bh.o4 ob)/\(s.bh.o4 ob).ck s.bh.kq.hN=ap ob/\P.k0 s.bh.kq.hN=.j2/\G.D.hE.ck s.bh.kq.hN=bk:=
 haveI m:=S.h.hA λb x e=>d4.e7 _ e
 ⟨⟨m.1,S.r⟩,m.2,d4.m8 _ hf,S.eS bT⟩
theorem Es.dG(a:d.ed t k=ap (.dG l3)):Es (.bs t k) d l3 (λd=>d.ed t k=ap (.dG l3)):=λA P s I b S r E L q=>by
 obtain⟨rfl,lv⟩:=r;refine aO (S.dG a) λus n c e=>?_;haveI S':=(S.cW (ob:={mm:=.fX "list_iterator",hy:=.j3 #[.bs (P.al t k),.bn 0 0]}) rfl (tk:=s.hO)).1;haveI X:=(S.cW (ob:={mm:=.fX "list_iterator",hy:=.j3 #[.bs (P.al t k),.bn 0 0]}) rfl (tk:=s.hO)).2.1;haveI g:=(S.cW (ob:={mm:=.fX "list_iterator",hy:=.j3 #[.bs (P.al t k),.bn 0 0]}) rfl (tk:=s.hO)).2.2.1;haveI nf:=(S.cW (ob:={mm:=.fX "list_iterator",hy:=.j3 #[.bs (P.al t k),.bn 0 0]}) rfl (tk:=s.hO)).2.2.2;exact cl (wpAny_pyIter_list ⟨_,c,rfl,n,rfl⟩ (q _ _ _ S' X bT (zc b) ⟨⟨(mM _ g rfl rfl),lv⟩,nf⟩))
theorem eW{a:e9}{h h':d4}{ad:bS e9}(X:At ad P P' d U h h')(e:h'.ck a=bk):h.ck a=bk:=by
 cases q:h.ck a with
 |bk=>rfl
 |ap o=>refine aN (X.kG a o q) λb z=>?_;exact dE (e.symm.trans z)
theorem IT.of(f:EX lp Q vs d x (.ok v U))(g:Es v U l3 ok):IT lp Q vs d x false l3 ok U:=λC e h A u P s a i E L k=>
 f C e h A u P s a _ L λI s' P' S' c r=>g A P' s' I i S' r E L λit j be l o n T p=>k it j P' [it] be l (c.trans o) (λb m=>am.e0.mp m▸eW c n) T p
def Mu(q:b0×b0×a5)(I:a9)(_:Ph)(_:H)(h:d4):Prop:=∃hi r a b c,I=.bs r/\IsRange h r q.1 hi q.2.1 a b c/\l7.Range.small q.1 hi q.2.1=true/\l7.Range.Lh q.1 hi q.2.1=q.2.2
def rG(ws:am V)(q:b0×b0×a5)(d:H):Prop:=∀A P s us,St G.D P d s->aA P d s.bh ws us->aC G.D bk A Mu P d s (.ok q d) (a8.ng (.fX "range") us [])
abbrev IT.yl{lo a:b0}{c:a5}:Prop:=∀(b:EL lp Q vs d xs (.ok ws U)) (e:rG ws (lo,a,c) U),IT lp Q vs d (.er xs) false (jo lo a c) (λZ=>Fw) U
theorem IT.er:∀{lp Q vs ws d U xs lo f c},@IT.yl lp Q vs ws d U xs lo f c:=by
 refine λ{lp Q vs ws d U xs lo f c}=>cK (q:=kD @IT.yl) ((?_:∀lp Q vs ws d U xs lo f c,@IT.yl lp Q vs ws d U xs lo f c) _ _ _ _ _ _ _ _ _ _) (lp,Q,vs,ws,d,U,xs,lo,f,c);intro lp Q vs ws d U xs lo f c j i;exact λC e h A u P s a n E L k=>by
  refine ar (aj h) λp o q=>?_;clear h;subst o;haveI z:=j C p.2.1 (ai q);haveI y:=dY (ao q) a (λI e=>e) (bE (z.1 _ _) (cB rfl) (z.2 A u P s p.2.2 a) λus s' P' S' X r=>i A P' s' us S' r);refine y _ L λI s' P' S' l r=>?_;clear y z q p a u C j;obtain⟨hi,r,x,B,D,rfl,i,hs,t⟩:=r;haveI v:=(S'.cW (ob:={mm:=.fX "range_iterator",hy:=.j3 #[wv lo,wv (l7.Range.Lh lo hi f),wv f]}) rfl (tk:=s'.hO)).1;haveI w:=(S'.cW (ob:={mm:=.fX "range_iterator",hy:=.j3 #[wv lo,wv (l7.Range.Lh lo hi f),wv f]}) rfl (tk:=s'.hO)).2.1;haveI g:=(S'.cW (ob:={mm:=.fX "range_iterator",hy:=.j3 #[wv lo,wv (l7.Range.Lh lo hi f),wv f]}) rfl (tk:=s'.hO)).2.2.1;haveI nf:=(S'.cW (ob:={mm:=.fX "range_iterator",hy:=.j3 #[wv lo,wv (l7.Range.Lh lo hi f),wv f]}) rfl (tk:=s'.hO)).2.2.2;refine cl (wpAny_pyIter_range i hs (k _ _ _ [_] _ v (l.trans w) (λb m=>am.e0.mp m▸eW l bT) (wK n) ⟨?_,nf⟩));refine ab (show lo+f*((0:a5):b0)=lo by simp) (ab (show(c:b0) - ((0:a5):b0)=l7.Range.Lh lo hi f by rw[t];simp) ?_);exact g
theorem MW{a n:b0}(h1:aP a)(h2:aP n):l7.Range.small a n 1=true:=small_one (b0.bb (by decide) (b0.l6 h1.1)) (b0.ew h1.2 (by decide)) (b0.bb (by decide) (b0.l6 h2.1)) (b0.ew h2.2 (by decide))
theorem MX{a n:b0}:l7.Range.Lh a n 1=((n - a).fo:b0):=by
 rw[rangeSize_one];by_cases h:a<n
 ·rw[et h];exact(b0.toNat_of_nonneg (b0.sub_nonneg_of_le (b0.l6 h))).symm
 ·rw[dx h,b0.toNat_of_nonpos (b0.sub_nonpos_of_le (b0.to.mp h))];rfl
theorem rG.one{n:b0}(q:aP n):rG [.bn n] (0,1,n.fo) d:=λA P s us S r E L k=>by
 obtain⟨_,rfl,⟨t,rfl⟩⟩:=r.one;haveI m:=S.h.hA (h':=s.bh.o4 {mm:=.fX "range",hy:=.j3 #[.bn 0 s.hO,.bn n t,.bn 1 (s.hO+1)]}) λb x e=>d4.e7 _ e;exact cl (call_range_1 (k _ {s with bh:=s.bh.o4 {mm:=.fX "range",hy:=.j3 #[.bn 0 s.hO,.bn n t,.bn 1 (s.hO+1)]},hO:=s.hO+1+1} P ⟨m.1,S.r⟩ m.2 (Ey n _ _ _ _ rfl (IsRange.hM ..) (MW (a:=0) ⟨by decide,by decide⟩ q) (by rw[MX,b0.sub_zero]))))
theorem rG.Io{a n:b0}(q1:aP a)(q:aP n):rG [.bn a,.bn n] (a,1,(n - a).fo) d:=λA P s us S r E L k=>by
 obtain⟨_,_,rfl,⟨t,rfl⟩,⟨c,rfl⟩⟩:=r.Io;haveI m:=S.h.hA (h':=s.bh.o4 {mm:=.fX "range",hy:=.j3 #[.bn a t,.bn n c,.bn 1 s.hO]}) λb x e=>d4.e7 _ e;exact cl (call_range_2 (k _ {s with bh:=s.bh.o4 {mm:=.fX "range",hy:=.j3 #[.bn a t,.bn n c,.bn 1 s.hO]},hO:=s.hO+1} P ⟨m.1,S.r⟩ m.2 (Ey n _ _ _ _ rfl (IsRange.hM ..) (MW q1 q) MX)))
variable(lp Q)in
def jw(x:X)(b:am S):a5->am V->H->Fl->am V->H->Prop
 |0,vs,d,fl,aL,U=>ET lp Q vs d x (.ok false U)/\fl=.nx/\aL=vs
 |n+1,vs,d,fl,aL,U=>∃dw f a gK,ET lp Q vs d x (.ok true dw)/\SB lp Q vs dw b f a gK/\((f=.nx/\jw x b n a gK fl aL U)\/(f≠ .nx/\fl=vt f/\aL=a/\U=gK))
theorem jw.done(h:ET lp Q vs d x (.ok false U)):jw lp Q x b 0 vs d .nx vs U:=ix h rfl rfl
theorem jw.go{n:a5}{dw gK:H}{a:am V}(h:ET lp Q vs d x (.ok true dw))(hb:SB lp Q vs dw b .nx a gK)(c:jw lp Q x b n a gK fl aL U):jw lp Q x b (n+1) vs d fl aL U:=G9 _ _ _ _ h hb (.u0 ⟨rfl,c⟩)
theorem jw.stop{dw:H}{f:Fl}(h:ET lp Q vs d x (.ok true dw))(hb:SB lp Q vs dw b f aL U)(hf:f≠ .nx):jw lp Q x b 1 vs d (vt f) aL U:=G9 _ _ _ _ h hb (.wl ⟨hf,rfl,rfl,rfl⟩)
end
def fV:a5->am V->am V
 |_,[]=> []
 |b,x::l=> .KS [.bn b,x]::fV (b+1) l
theorem pH:∀{l:am V} {b i:a5} {v:V},(fV b l)[i]?=ap v->∃x,l[i]?=ap x/\v=.KS [.bn ((b+i:a5):b0),x]
 | [],_,_,_,h=>dE h
 |x::l,b,0,v,h=>⟨x,rfl,(bS.ap.zv h).symm⟩
 |x::l,b,i+1,v,h=>by
  refine ar (pH (b:=b+1) h) λy h1 h2=>?_;exact aR y h1 (by rw[h2,a5.AC,a5.t0])
theorem wW:∀{l:am V} {b:a5},(fV b l).ah=l.ah:=by
 intro a
 induction a with
 |iv=>
  intro Z;fail"c"
 |d2 x l c=>
  intro b;exact b5 a5.Fy (c)
section
variable{P:Ph}{d U:H}{s:a6}{A:ec}{e it:e9}{l3 vs:am V}{t k:a5}{lp:ct}{Q:a5}{x:X}
theorem yZ{i:b0}{x:a9}{a:e9}{c:fY}{E:y5->a6->Prop}{L:a9->a6->Prop}(b:IsEnumOut s.bh e it i x a)(ht:c.b4=25)
  (q:∀h',IsEnum h' e it i x->d4.nT e s.bh h'->E () {s with bh:=h'}):ch (dd G.D.bZ G.D.w) A (GM c (.bs e) (.bs a)) E L s:=by
 cases c with
 |KK es n p=>
  refine aa (cJ b ?_);dsimp only;rw[et (by simp)];refine aa (cI (aa (cJ b ?_)));dsimp only;rw[et (by simp)];exact cl (a8.wpAny_update b (q _ (d4.mv _ b rfl) (d4.nT.G0 ..)))
 |_=>exact bf id ht rfl
structure Kx(e it:e9)(t k:a5)(i:a5)(P:Ph)(d:H)(h:d4):Prop where
 en:∃old,IsEnum h e it i old
 li:h.IsListIter it (P.al t k) i
 lv:qE d t k
 fe:P.k0 e=.j2/\G.D.hE.ck e=bk
 fi:P.k0 it=.j2/\G.D.hE.ck it=bk
theorem i8{o:Do}{T:z8}(c:o.mm=.fX T)(a:(T== "tuple")=false)(b:(T== "slice")=false):o.mm≠ .fX "tuple" /\o.mm≠ .fX "slice" :=
 ⟨λz=>(by replace z:=c▸z;clear b c o;cases z;exact mj a),λz=>(by replace z:=c▸z;clear a c o;cases z;exact mj b)⟩
theorem Kx.tn{i:a5}{h h':d4}(x:Kx e it t k i P d h)(y:∀b o,b≠e->b≠it->h.ck b=ap o->h'.ck b=ap o):Tn P [e,it] h h':=by
 refine aD λq f=>?_;obtain⟨⟨r,g⟩,⟨o,j,l,n⟩,n,fe,fi⟩:=x;apply f;clear f;haveI Io:∀{p:e9->Prop},p e->p it->∀a,a∈[e,it]->p a:=λa b c m=>by
  refine aD λq f=>?_;clear fi fe n l j o g r y h' h i;rcases am.hD.mp m with rfl |m<;>refine f ?_<;>clear f
  ·exact a
  ·exact ab (am.e0.mp m) b
 exact⟨Io fe.1 fi.1,Io fe.2 fi.2,Io ⟨_,g,i8 rfl (by decide) (by decide)⟩ ⟨o,j,i8 l (by decide) (by decide)⟩,λb o m=>y b o (λz=>m (ab z (.sk _))) λz=>m (ab z (.sy _ (.sk _)))⟩
theorem zd(B:A.z4=bk)(ne:e≠it):xu A true (fV 0 l3) (λd=>d.ed t k=ap (.dG l3)) e [e,it] (Kx e it t k)where
 next i P d s v hx be S st E L q:=by
  refine aD λp c=>aO (S.dG st) λus n g r=>?_;refine ar (pH hx) λx C N=>?_;clear st hx B;subst N;refine ar (r.LL C) λI D F=>aN be.en λj f=>?_;apply c;clear c;refine cl (wpAny_pyNext_enum_item f be.li ⟨_,g,rfl,n,rfl⟩ (kS D) ne λh' G H J O hs=>?_);have x1:=be.tn hs;haveI nf:=S.eS bT;refine q _ h' (s.hO+1) x1 ⟨_,_,rfl,nf.1,⟨_,J,rfl,_,rfl⟩,_,_,rfl,⟨s.hO,by rw[a5.pt]⟩,_,_,rfl,F.kx x1.q7,rfl⟩ λQ R T tt k'=>yZ G (tt rfl) λCo K M=>?_;haveI V:Tn P [e,it] h' Co:=⟨x1.k0,x1.py,λa m=>by
   refine aD λp c=>?_;clear K k' tt T R Q J nf x1 hs O g f j F D C r us q L E S be d ne;rcases am.hD.mp m with rfl |m<;>refine c ?_<;>clear c
   ·exact aR _ G (i8 rfl (by decide) (by decide))
   ·refine aD λp c=>lI H λo l u w=>?_;apply c;clear c;exact am.e0.mp m▸⟨o,l,i8 u (by decide) (by decide)⟩,λb o m z=>(M.2 b λy=>m (y▸.sk _)).trans z⟩
  exact k' Co V ⟨⟨_,K⟩,H.extBut M.extBut (Ne.symm ne),be.lv,be.fe,be.fi⟩
 done i P d s hx be S st E L q:=by
  refine aD λp c=>aO (S.dG st) λus n g r=>aN be.en λj f=>?_;apply c;clear c;exact cl (wpAny_pyNext_enum_end B f be.li ⟨_,g,rfl,n,rfl⟩ (te (r.ah▸wW▸kM hx)) λh' hs=>q h' _ (be.tn λb o w n=>hs b o n))
 j1 i P d h P' U h' ad be X:=by
  refine aD λp c=>?_;obtain⟨⟨j,f⟩,⟨o,l,u,hd⟩,lv,fe,fi⟩:=be;apply c;clear c;exact⟨⟨j,X.j1 e _ f fe.1⟩,⟨o,X.j1 it o l fi.1,u,(X.qE t k lv).2▸hd⟩,(X.qE t k lv).1,⟨(X.k0 e _ f).trans fe.1,fe.2⟩,(X.k0 it o l).trans fi.1,fi.2⟩
 y6 i P d s be E L q:=be.en.ef λj f=>cl (wpAny_pyIter_enum f q)
 only i P d h h' b be x nb:=by
  refine aD λp c=>?_;obtain⟨⟨j,f⟩,⟨o,l,u,hd⟩,lv,fe,fi⟩:=be;apply c;clear c;exact⟨⟨j,x.at (λz=>nb (ab z (.sk _))) f⟩,⟨o,x.at (λz=>nb (ab z (.sy _ (.sk _)))) l,u,hd⟩,lv,fe,fi⟩
 has i P d h be a m:=by
  refine aD λp c=>?_;obtain⟨⟨j,f⟩,⟨o,l,w⟩,w⟩:=be;clear w;rcases am.hD.mp m with rfl |m<;>refine c ?_<;>clear c
  ·exact⟨_,f⟩
  ·exact ab (am.e0.mp m) (⟨o,l⟩)
def PD(h0:d4)(q:a5×a5)(I:a9)(P:Ph)(d:H)(h:d4):Prop:=∃e it,I=.bs e/\e≠it/\h0.ck e=bk/\h0.ck it=bk/\Kx e it q.1 q.2 0 P d h
theorem IT.pI(j:EX lp Q vs d x (.ok (.bs t k) U))(F:U.ed t k=ap (.dG l3)):IT lp Q vs d (.pI x) true (fV 0 l3) (λd=>d.ed t k=ap (.dG l3)) U:=λC y h A u P s a l E L c=>by
 refine ar (aj h) λp o q=>?_;clear h;subst o;haveI c1:=ai q;refine ar (cu c1) λH v w=>?_;haveI B:fK c9 G.D.ev C [x] p.2.1=true:=v▸ct.pn.ow ⟨w,rfl⟩;haveI z:=(EL.d2 j EL.iv) C p.2.1 B;haveI y:aC G.D bk A (PD s.bh) P d s (.ok (t,k) U) (a8.pa (.Call p.1 p.2.1 [] p.2.2) u):=dY (ao q) a (λI e=>e) (bE (z.1 _ _) (cB rfl) (z.2 A u P s p.2.2 a) λus s' P' S' X r=>?_)
 ·refine y _ L λI s' P' S' J r=>?_;refine tF r λe it D ne M N be=>?_;clear r y z B w v H c1 q p F j;subst D;refine be.en.ef λO f=>cl (wpAny_pyIter_enum f (c e s' P' [e,it] _ S' J (λa m=>?_) (zd l ne) be));clear f O be ne J S' P' s' c L E l;rcases am.hD.mp m with rfl |m
  ·exact M
  ·exact ab (am.e0.mp m) N
 ·refine lI r.one λI o D lv=>?_;clear a z B w v H c1 l u j;subst o;subst D;refine aO (S'.dG F) λus n g r=>λE L c=>cl (call_enumerate_list ⟨_,g,rfl,n,rfl⟩ λh' f R T S=>?_);haveI K:=S'.h.hA S;haveI i:∀b,s'.bh.kq.hN<=b->s'.bh.ck b=bk:=λb q=>a8.d4.Cn q;exact c _ {s' with bh:=h'} P' ⟨K.1,S'.r⟩ K.2 ⟨_,_,rfl,a5.succ_ne_self _,eW X (i _ (a5.IO _)),eW X (i _ (a5.i3 _)),⟨_,f⟩,R,lv,S'.eS (i _ (a5.IO _)),S'.eS (i _ (a5.i3 _))⟩
end
def xH(u:Cg)(bv:Dx):am (bS fY)->am fY->am (xE a9×xE a9)
 | [],_=> []
 |k::ks,vs=>match k with |bk=> [] |ap k=>match vs with | []=> [] |v::vs=>(a8.pa k u,a8.pa v u>>=λx=>kK bv>>=λZ=>h8 x)::xH u bv ks vs
section
variable{lp:ct}{Q:a5}{C:Cx}{A:ec}{u:Cg}{vs ws:am V}{P P':Ph}{d U ay:H}{s s':a6}{x:X}{v w:V}{ce:a5}{xs:am X}{bv:Dx}{ks:am h9}
variable(lp Q vs)in
def NV:am X->am V->H->H->Prop
 | [],ws,d,U=>ws=[]/\U=d
 |x::xs,ws,d,U=>∃w wr m,ws=w::wr/\EX lp Q vs d x (.ok w m)/\NV xs wr m U
def VP(ks:am h9)(ws:am V)(b:am (a9×a9))(P:Ph)(d:H)(h:d4):Prop:=∃a:am (h9×a9),Carries (strKind G.D.bZ G.D.w) b a/\a.hC (·.1)=ks/\aA P d h ws (a.hC (·.2))
theorem qW{K:Type} [D6 K]{ms:KeyKind G.D.bZ G.D.w K}{h:d4}{a:e9}(g:h.ck a=ap {mm:=.fX "dict",hy:=.BT #[]}):h.GY ms a []:=
 ⟨_, #[],0,g,(ix rfl rfl rfl),rfl,λe b=>by simp at b,.iv,by simp⟩
theorem EX.Ed:EX lp Q vs d (.dc [] []) (.ok (.bs ce (d.gz ce)) (d.hM ce (.di []))):=λC e h A u P s a=>by
 refine ar (aj h) λp b q=>?_;clear h;subst b;refine ab (am.sn.mp (ao q)) (ab (am.sn.mp (ai (ai (ai (ai q))))) ?_);show aC G.D bk A VS P d s _ (kK p.2.2>>=λZ=>newDict);exact aC.aU λE L k=>cl (wf (a.S.uZ (o:=.di []) rfl (λP' h' c f g=>aR ([]) (c.symm▸qW f) rfl) k))
abbrev EX.Pw{kn:am (am a5)}:Prop:=∀(a:ks=kn.hC cps) (h0:ks≠[]) (b:NV lp Q vs xs ws d U),EX lp Q vs d (.dc ks xs) (.ok (.bs ce (U.gz ce)) (U.hM ce (.ds (kn.zip ws))))
abbrev EX.qA{i:b0}:Prop:=∀(a:EX lp Q vs d x (.ok (.bn i) U)),EX lp Q vs d (.mu x) (.ok (.gg true) U)
theorem EX.mu:∀{lp Q vs d U x i},@EX.qA lp Q vs d U x i:=by
 refine λ{lp Q vs d U x i}=>cK (q:=tG @EX.qA) ((?_:∀lp Q vs d U x i,@EX.qA lp Q vs d U x i) _ _ _ _ _ _ _) (lp,Q,vs,d,U,x,i);intro lp Q vs d U x i f;exact λC e h A u P s a=>by
  refine aD λl m=>?_;refine ar (aj h) λp b q=>?_;subst b;refine aO (cM (ai q)) λc t g q2=>?_;haveI hs:=ao (ai q2);refine aO (j5 (ao q2)) λid tp o hg=>?_;subst o;apply m;clear m;refine ab g ?_;haveI j:(Fu p.2.2 (tC [c,.r0 id tp] u)).any (·.1)=false:=rU hs λZ Z=>rfl;refine dY (ao q) a (λI e=>e) (bE (VA:=λ(_:y5) us P d h=>∃t,us=[.bn i t,.fX "int"]) (a:=()) (U:=U) j (cB rfl) ?_ λus s' P' S' X r=>?_)
  ·refine ab (d5 hs) ?_;show aC G.D bk A _ P d s _ (a8.pa c u>>=λI=>a8.ff [I] (a8.pa (.r0 id tp) u>>=λw=>a8.ff [w] (h8 [])>>=λr=>h8 ([w] ++r))>>=λr=>h8 ([I] ++r));refine aC.tb (f C c (ai (ai q2)) A u P s a) λI s' P' S' n r=>?_;refine aN r λtk b=>?_;clear r j hs q2 g c q l h f;subst b;refine λE L k=>aa (ak (aa (kR (a.on S' n) hg λw v=>?_)));clear n a hg tp id p s P u C;obtain rfl:w=.fX "int" :=v;exact aa (ak (af (af (af (k _ s' P' S' .hJ ⟨tk,rfl⟩)))))
  ·refine aN r λt b=>?_;clear r X a j hg hs q2 g c q l s P u h C f;subst b;exact λE L k=>cl (IsiPair.int_int (k _ s' P' S' .hJ rfl))
end
section
variable{A:ec}{P P1 P':Ph}{d dw U:H}{s s':a6}{h h1 h' hs B:d4}{ad:bS e9}{M ea:e9}{c:a5}{e:a9}{l:am Cg}{as:am e9}
theorem At.hW(low:∀b M,P.k0 b=.f5 M->M<=b)(j:∀b o,h.ck b=ap o->b<M)(a:At ad P P1 d dw h h1)(c:At (ap M) P1 P' dw U h1 h'):At ad P P' d U h h':=
 ⟨λt k l=>⟨(c.qE t k (a.qE t k l).1).1,(c.qE t k (a.qE t k l).1).2.trans (a.qE t k l).2⟩,λb o e f=>c.j1 b o (a.j1 b o e f) ((a.k0 b _ e).trans f),
  λb o N e f n=>(a.f5 b o N e f n).ef λZ g=>(c.f5 b _ N g ((a.k0 b _ e).trans f) λz=>a5.q5 _ (a5.ew (j b o e) (bS.ap.zv z▸low b N f))).DO λZ z=>z,
  λb o e=>(a.kG b o e).ef λi g=>c.kG b i g,λb o e=>(a.kG b o e).ef λi g=>(c.k0 b i g).trans (a.k0 b o e)⟩
theorem eC.hW(low:∀b M,P.k0 b=.f5 M->M<=b)(f:∀b o,h.ck b=ap o->b<M)(a:At bk P P1 d d h h1)(x:eC G.D (ap M) A c P1 P' d U h1 e s'):eC G.D bk A c P P' d U h e s':=
 aO x λea B g z=>⟨ea,B,g,z.zD,z.st,z.fr,At.hW low f a z.ext,λb o q w=>z.j1 b o (a.j1 b o q w) ((a.k0 b _ q).trans w),z.r⟩
def GB(P:Ph)(h h':d4):Prop:=∀a us,P.k0 a=.j2->IsTup h a us->IsTup h' a us
mutual
theorem aF.tJ(x:GB P h h'):∀{v:V} {I:Value},aF P d h v I->aF P d h' v I
 | .undef,_,r=>r
 | .none,_,r=>r
 | .bool _,_,r=>r
 | .int _,_,r=>r
 | .str _,_,r=>r
 | .bytes _,_,r=>r
 | .tup l,_,r=>by
  exact iy r λa vs e f t b=>nj a vs e f (x a _ f t) (aA.tJ x b)
 | .ref t k,_,r=>r
theorem aA.tJ(x:GB P h h'):∀{v:List V} {I:List Value},aA P d h v I->aA P d h' v I
 | [],_,r=>r
 |a::l,_,r=>by
  exact dQ r λv ws e b c=>eN v ws e (b.tJ x) (aA.tJ x c)
end
theorem iz.hide(S:iz G.D Fw P d h)(x:∀a,a∈as->(∃M,P.k0 a=.f5 M)\/(P.k0 a=.j2/\G.D.hE.ck a=bk/\∃o vs,h.ck a=ap o/\o.hy=.j3 vs)):iz G.D uk P d (hideAll h as):=by
 have kp:∀{b o w},P.k0 b=w->(∀M,w≠ .f5 M)->w≠ .j2->h.ck b=ap o->(hideAll h as).ck b=ap o:=λq j l e=>hideAll_get _ e λm=>(x _ m).ef (λz=>z.ef λM z=>j M (q.symm.trans z)) λz=>l (q.symm.trans z.1);have g:GB P h (hideAll h as):=λb us f z=>by
  obtain⟨o,e,c,n,hd⟩:=z;refine⟨o,hideAll_get _ e λm=>?_,c,n,hd⟩;rcases x b m with⟨M,z⟩ |⟨_,_,o',vs,q,q1⟩
  ·exact bf GX.b4 (f.symm.trans z) rfl
  ·obtain rfl:o=o':=bS.ap.zv (e.symm.trans q);exact bf Data.b4 (hd.symm.trans q1) rfl
 exact⟨λb t k q=>(S.min b t k q).DO λo e=>kp q (λZ z=>bf GX.b4 z rfl) (iD GX.b4) e,S.low,λf=>f.ef,λb o e=>⟨hideAll_get _ (S.tg b o e).1 λm=>(x b m).ef (λz=>z.ef λM z=>bf GX.b4 ((S.tg b o e).2.symm.trans z) rfl) λz=>oP (e.symm.trans z.2.1),(S.tg b o e).2⟩,
  λt k o e=>⟨(S.ed t k o e).1.hC (λr=>r.tJ g) (S.ed t k o e).2 rfl λb y i p=>⟨kp i (λZ z=>bf GX.b4 z rfl) (iD GX.b4) p,i⟩,(S.ed t k o e).2⟩,S.fresh,S.DD.kx (λZ e=>e) λb o f e=>⟨kp f (λZ z=>bf GX.b4 z rfl) (iD GX.b4) e,f⟩⟩
theorem lands(j:B.StaysIn s'.bh)(up:∀b o,hs.ck b=ap o->(∀vs,o.hy≠ .j3 vs)->∃sl,s'.bh.ck b=ap {o with vT:=sl})
  (st:iz G.D uk P' U B) (fr:∀b M,P'.k0 b=.f5 M->∃o,hs.ck b=ap o/\∀vs,o.hy≠ .j3 vs) (X:At ad P P' d U h hs) (j1:∀b o,h.ck b=ap o->P.k0 b=.j2->B.ck b=ap o):(∀b M,P'.k0 b=.f5 M->∃o,s'.bh.ck b=ap o/\∀vs,o.hy≠ .j3 vs)/\At ad P P' d U h s'.bh:=by
 have k1:∀b o,B.ck b=ap o->∃k,s'.bh.ck b=ap k:=λb o e=>⟨o,j b o e⟩;have LW:∀b M,P'.k0 b=.f5 M->∃o,s'.bh.ck b=ap o/\∀vs,o.hy≠ .j3 vs:=λb M q=>by
  exact ar (fr b M q) λo c a=>aN (up b o c a) λr g=>aR _ g a
 refine⟨LW,⟨X.qE,λb o q w=>j b o (j1 b o q w),λb o M q w z=>?_,λb o q=>?_,X.k0⟩⟩
 ·refine aN (X.f5 b o M q w z) λs c=>ar (fr b M ((X.k0 b _ q).trans w)) λk a l=>?_;obtain rfl:=bS.ap.zv (c.symm.trans a);exact aN (up b _ c l) λm n=>⟨m,n⟩
 ·have i:=X.k0 b o q;cases f:P.k0 b with
  |j2=>exact k1 b o (j1 b o q f)
  |d9 t p=>exact(st.min b t p (i.trans f)).ef λo2 a=>k1 b o2 a
  |f5 M=>exact(LW b M (i.trans f)).DO λo z=>z.1
  |DD=>exact(st.DD.there b (i.trans f)).ef λo2 a=>k1 b o2 a
theorem v9.land{a:a9}(hf:A.un=ap l)(zD:d4.FlyingW B l ea (.bs (G.D.mm c)) a s'.bh)(up:∀b o,hs.ck b=ap o->(∀vs,o.hy≠ .j3 vs)->∃sl,s'.bh.ck b=ap {o with vT:=sl})
  (st:iz G.D uk P' U B) (fr:∀b M,P'.k0 b=.f5 M->∃o,hs.ck b=ap o/\∀vs,o.hy≠ .j3 vs) (X:At ad P P' d U h hs) (j1:∀b o,h.ck b=ap o->P.k0 b=.j2->B.ck b=ap o) (r:s'.gens=G.D.gens/\s'.drawn=G.D.drawn/\s'.os=G.D.os/\G.D.lv):v9 G.D ad A c P P' d U h s' ea B:=
 ⟨⟨a,l,hf,zD⟩,st,(lands zD.1 up st fr X j1).1,(lands zD.1 up st fr X j1).2,j1,r⟩
theorem gC.land{M:e9}{a:a9}(hf:A.un=ap l)(hh:d4.HeldW B l ea (.bs (G.D.mm c)) a M s'.bh)(up:∀b o,hs.ck b=ap o->(∀vs,o.hy≠ .j3 vs)->∃sl,s'.bh.ck b=ap {o with vT:=sl})
  (st:iz G.D uk P' U B) (fr:∀b M,P'.k0 b=.f5 M->∃o,hs.ck b=ap o/\∀vs,o.hy≠ .j3 vs) (X:At (ap M) P P' d U h hs) (j1:∀b o,h.ck b=ap o->P.k0 b=.j2->B.ck b=ap o) (r:s'.gens=G.D.gens/\s'.drawn=G.D.drawn/\s'.os=G.D.os/\G.D.lv):gC M A c P P' d U h s' ea B:=
 ⟨⟨a,l,hf,hh⟩,st,(lands hh.1 up st fr X j1).1,j1,(lands hh.1 up st fr X j1).2,r⟩
abbrev fk{u:Cg}{Q y nf:a5}{lp:ct}{E:y5->a6->Prop}{L:a9->a6->Prop}{sl:am h9}{vs:am V}:Prop:=∀(ac:iB y lp A P h Q) (F:lE nf sl u vs P' U s'.bh) (x:dj u.gX (A.Ki u) c P P' d U h e s') (k:∀a,eC G.D (ap u.gX) A c P P' d U h e a->E () a),ch (dd G.D.bZ G.D.w) (A.Ki u) (leaving u e) E L s'
theorem qz:∀{A P P' d U s' h c e u Q y nf lp E L sl vs},@fk A P P' d U s' h c e u Q y nf lp E L sl vs:=by
 refine λ{A P P' d U s' h c e u Q y nf lp E L sl vs}=>cK (q:=xQ @fk) ((?_:∀A P P' d U s' h c e u Q y nf lp E L sl vs,@fk A P P' d U s' h c e u Q y nf lp E L sl vs) _ _ _ _ _ _ _ _ _ _ _ _ _ _ _ _ _ _) (A,P,P',d,U,s',h,c,e,u,Q,y,nf,lp,E,L,sl,vs);intro A P P' d U s' h c e u Q y nf lp E L sl vs ac F x k;refine aD λg f=>ar ac.un λl j n=>?_;have fr:(A.Ki u).un=ap (u::l):=by delta ec.Ki;exact ab j rfl
 clear ac lp Q;rcases x with⟨ea,B,rfl,z⟩ |⟨ea,oe,ws,G,rfl,z⟩ |⟨ea,B,rfl,z⟩<;>refine f ?_<;>clear f
 ·refine aD λg f=>aO z.zD λG N t p=>?_;apply f;clear f;clear g n y;obtain rfl:=bS.ap.zv (fr.symm.trans t);exact cl (wpAny_leaves_onW fr F.f5 p λh' x1 v=>k {s' with bh:=h'} ⟨ea,B,rfl,v9.land j x1 v z.st z.fr z.ext z.j1 z.r⟩)
 ·haveI S':=z.st;have X:=z.ext;have s:∀e∈u::l,e.jp.s9≠ .module/\∃ad o,e.f5=ap ad/\P'.k0 ad=.f5 ad/\s'.bh.ck ad=ap o/\∀vs,o.hy≠ .j3 vs:=λe i=>by
   refine aD λg f=>?_;clear z ws oe fr j k L E y;rcases am.hD.mp i with rfl |i<;>refine f ?_<;>clear f
   ·refine aD λg f=>ar (S'.h.qL trivial _ _ F.k0) λo q1 q2=>?_;apply f;exact⟨by refine ab F.s9 ?_;decide,_,o,F.f5,F.k0,q1,q2⟩
   ·refine aD λg f=>?_;obtain⟨kd,ad,o,q1,q2,C,H⟩:=n e i;have I:=(X.k0 ad o C).trans q2;refine ar (S'.h.qL trivial _ _ I) λO R S=>?_;apply f;exact⟨kd,ad,O,q1,I,R,S⟩
  have has:∀a,a∈ea::(u::l).C2 (·.f5)->a=ea\/∃M,P'.k0 a=.f5 M:=λa m=>(am.hD.mp m).DO id λm=>by
   refine aD λg f=>ar (am.mem_filterMap.mp m) λe i q=>?_;obtain⟨_,ad,o,q1,q2,_⟩:=s e i;apply f;clear f;clear i g m s X S' z ws oe fr n j k;obtain rfl:=bS.ap.zv (q.symm.trans q1);exact⟨_,q2⟩
  haveI J:=S'.h.hide (as:=ea::(u::l).C2 (·.f5)) λa m=>by
   refine aD λg f=>?_;clear s X S' fr n j k F vs sl;rcases has a m with rfl |q<;>refine f ?_<;>clear f
   ·exact .wl ⟨z.k0,z.py,oe,ws,z.LL,z.hy⟩
   ·exact .u0 q
  haveI T:∀(r:am Cg),(∀e∈r,e∈u::l)->s'.bh.FunFrames (hideAll s'.bh (ea::(u::l).C2 (·.f5))) r:=λr=>by
   clear J has X S' z fr n j k F vs sl L E nf;induction r with
   |iv=>exact λ_=>trivial
   |d2 e r V=>
    intro K;have i:=K e (.sk _);refine aD λg f=>?_;obtain⟨kd,ad,o,q1,q2,C,H⟩:=s e i;apply f;clear f;exact ix kd ⟨ad,o,q1,Id _ (.sy _ (am.mem_filterMap.ow ⟨e,i,q1⟩)),C,H⟩ (V λW h'=>K W (.sy _ h'))
  refine cl (wpAny_leaving_firstW fr (T _ λ_ h=>h) F.f5 z.LL (λb o e=>of_hideAll _ e) (Id _ (.sk _)) z.hy z.v1 z.v0 λh' x=>k {s' with bh:=h'} ⟨ea,hideAll s'.bh (ea::(u::l).C2 (·.f5)),rfl,aD λg f=>?_⟩);obtain⟨Y,⟨_,_,Z⟩,D,y4⟩:=x;apply f;replace D:=z.mm▸D;exact v9.land j (mN Y (Id _ (.sk _)) Z D) y4 J (S'.h.qL trivial) X (λb o q w=>hideAll_get _ (X.j1 b o q w) λm=>(has b m).ef (λy=>z.hM b o q w y) λz=>z.ef λM y=>bf GX.b4 (((X.k0 b o q).trans w).symm.trans y) rfl) S'.r
 ·refine aD λg f=>aO z.held λG N t p=>?_;apply f;clear y;obtain rfl:=bS.ap.zv (fr.symm.trans t);delta leaving;refine aa (cl (Ie F.f5 p.2.2.2 (cl (wpAny_landsW p λh' x1 v=>k {s' with bh:=h'} ⟨ea,B,rfl,aD λg f=>?_⟩))));obtain⟨N_,N9,⟨_,_,N8⟩,N7⟩:=x1;apply f;clear f;exact v9.land j (mN N_ N9 N8 N7) v z.st z.fr z.ext z.j1 z.r
end
structure MC(f:a5)(F:Fn)(o:Do)(fd:xF)(lV:am xo)(em:am h9)(C:Cx):Prop where
 LL:G.D.K.eh (nY f)=ap o
 hy:o.hy=.func fd
 glob:fd.y0=hU
 FX:fd.closure=[]
 Ly:fd.r6=DQ
 b_:fd.lV=.stmts lV
 J1:codeIn G.D.K fd.J1 fd.DN=true
 co:fd.jp.DH=false
 gen:fd.jp.DM=false
 s9:fd.jp.s9=.xL
 nd:em.p9
 np:((cellsFrom 0 fd.jp.em []).hC (·.1)).p9
 at_:∀i n,i<em.ah->C.sl[i]?=ap n->em[i]?=ap n
 kd:∀n,fd.jp.em.eh n=C.kd n
 j2:∀n,C.kd n≠ap .j2
 has:∀i n,i<F.nf->C.sl[i]?=ap n->C.kd n=ap .local\/C.kd n=ap .E2
 arg:∀(i:a5) (n:h9),em[i]?=ap n->C.kd n=ap .local\/C.kd n=ap .E2
 zv:∀(i j:a5) (n:h9),i<F.nf->j<F.nf->C.sl[i]?=ap n->C.sl[j]?=ap n->i=j
 le:em.ah<=F.nf
 tB:cD c9 G.D.ev C F.nf F.lV lV=true
 ctx:C.J1=true->Dj G.D fd.J1 (fd.DN++ ".<locals>.")
def Ex(fd:xF)(em:am h9)(ci w:am V):Prop:=∀(s:a6) (db:am a9) (P:Ph) (d:H),G.D.K.In s.bh->aA P d s.bh ci db->∃us,BindsTo s fd ⟨db,[]⟩ (em.zip us)/\aA P d s.bh w us
section
variable{or:h9->bS nc}{n:h9}{I:a9}
theorem xg:∀{a:am (h9×a9)} {m:h9->bS a9},n∉a.hC (·.1)->bindL or a m n=m n:=by
 intro b
 induction b with
 |iv=>
  intro Z Z;fail"c"
 |d2 x r c=>
  intro m h;rw[am.wL,am.hD,not_or]at h;refine ab (c h.2) ?_
  split
  ·exact dx h.1
  ·rfl
theorem xh:∀{a:am (h9×a9)} {m:h9->bS a9},n∉a.hC (·.1)->bindC or a m n=m n:=by
 intro b
 induction b with
 |iv=>
  intro Z Z;fail"c"
 |d2 x r c=>
  intro m h;rw[am.wL,am.hD,not_or]at h;refine ab (c h.2) ?_
  split
  ·rfl
  ·exact dx h.1
theorem jc(b:or n=ap .local):∀{a:am (h9×a9)} {m:h9->bS a9},(a.hC (·.1)).p9->(n,I)∈a->bindL or a m n=ap I:=by
 intro c
 induction c with
 |iv=>
  intro Z Z h;exact bC h
 |d2 x r d=>
  intro m hn h;rw[am.wL,am.p5]at hn;rcases am.hD.mp h with rfl |e
  ·show bindL or r _ n=_;apply((xg hn.1)).trans;exact ab (et b) (et rfl)
  ·show bindL or r _ n=_;exact d hn.2 e
theorem AN(b:or n≠ap .local):∀{a:am (h9×a9)} {m:h9->bS a9},(a.hC (·.1)).p9->(n,I)∈a->bindC or a m n=ap I:=by
 intro c
 induction c with
 |iv=>
  intro Z Z h;exact bC h
 |d2 x r d=>
  intro m hn h;rw[am.wL,am.p5]at hn;rcases am.hD.mp h with rfl |e
  ·show bindC or r _ n=_;apply((xh hn.1)).trans;exact ab (dx b) (et rfl)
  ·show bindC or r _ n=_;exact d hn.2 e
end
theorem vc{α β:Type}:∀{l:am α} {m:am β},l.ah=m.ah->(l.zip m).hC (·.1)=l:=by
 intro c
 induction c with
 |iv=>
  intro m h;fail"c"
 |d2 a l d=>
  intro m h;cases m with
  |iv=>exact bf id h rfl
  |d2 b m=>exact b5 (a::·) (d (a5.Fy.zv h))
theorem Bi{α β:Type}{l:am α}{m:am β}{i:a5}{a:α}{b:β}(h:l[i]?=ap a)(h':m[i]?=ap b):(a,b)∈l.zip m:=am.mem_of_getElem? (am.getElem?_zip_eq_some.ow ⟨h,h'⟩)
def Ph.o4(P:Ph)(ad:e9)(np:am (h9×e9)):Ph:=⟨P.al,λb=>if b=ad\/b∈np.hC (·.2)then .f5 ad else P.k0 b⟩
section
variable{lp:ct}{Q f:a5}{C:Cx}{A:ec}{u:Cg}{vs aL ci w:am V}{P P':Ph}{d U:H}{s s1:a6}{F:Fn}{o:Do}{fd:xF}{lV:am xo}{em:am h9}{fl:Fl}{us:am a9}{n:a5}
abbrev j6:Prop:=∀(K:MC f F o fd lV em C) (S:St G.D P d s) (ac:iB 0 lp A P s.bh (Q+1)) (r:∀{i:a5} {v:V},w[i]?=ap v->v≠ .i1->∃I,us[i]?=ap I/\aF P d s.bh v I) (b:em.ah=us.ah) (c:w.ah=em.ah) (e:u=newEnv fd.jp s.bh.kq.hN fd.y0 (cellsFrom (s.bh.kq.hN+1) fd.jp.em []) (fd.DN++ ".<locals>.") (ap (nY f)) fd.J1 bk fd.r6) (x:InCallC s u.gX (bindL u.n1 (em.zip us) λa=>bk) u.np (bindC u.n1 (em.zip us) λa=>bk) s1),fH lp Q C F.nf (A.Ki u) u (w++am.f7 n .i1) (P.o4 u.gX u.np) d s1/\At bk P (P.o4 u.gX u.np) d d s.bh s1.bh/\s.bh.kq.hN<=u.gX
theorem zy:∀{lp Q f C A u w P d s s1 F o fd lV em us n},@j6 lp Q f C A u w P d s s1 F o fd lV em us n:=by
 refine λ{lp Q f C A u w P d s s1 F o fd lV em us n}=>cK (q:=xQ @j6) ((?_:∀lp Q f C A u w P d s s1 F o fd lV em us n,@j6 lp Q f C A u w P d s s1 F o fd lV em us n) _ _ _ _ _ _ _ _ _ _ _ _ _ _ _ _ _ _) (lp,Q,f,C,A,u,w,P,d,s,s1,F,o,fd,lV,em,us,n);intro lp Q f C A u w P d s s1 F o fd lV em us n K S ac r hu T H x;have U:u.gX=s.bh.kq.hN:=by exact ab H rfl
 have W:u.np=cellsFrom (s.bh.kq.hN+1) fd.jp.em []:=by exact ab H rfl
 have J:u.jp=fd.jp:=by exact ab H rfl
 have Y:u.f5=ap u.gX:=by exact ab H rfl
 have B:∀n,u.n1 n=C.kd n:=λn=>by unfold Cg.n1;exact ab J (K.kd n)
 have L:u.y0=hU:=H▸K.glob;have N:u.r6=DQ:=H▸K.Ly;have Z:u.J1=fd.J1/\u.qual=fd.DN++ ".<locals>." :=by exact ab H (⟨rfl,rfl⟩)
 clear H;refine f_ x.Ej.mx λh1 tk bj=>?_;subst bj;have j1:=x.Ej.j1;have ns:=x.Ej.ns;have aa:∀c,c∈u.np.hC (·.2)->u.gX<c:=λc a=>by
  refine ar (am.JQ.mp a) λp hm bj=>?_;clear a ns j1 Z N L n B Y J W U T hu r ac S K;subst bj;exact x.above p.1 p.2 hm
 have k0:∀b o,s.bh.ck b=ap o->(P.o4 u.gX u.np).k0 b=P.k0 b:=λb o e=>dx λq=>by
  haveI lt:=d4.JL e;rw[←U]at lt;exact q.ef (λq=>a5.q5 _ (q▸lt)) λq=>a5.q5 _ (a5.uo lt (aa b q))
 have X:At bk P (P.o4 u.gX u.np) d d s.bh h1:=⟨λt k l=>⟨l,rfl⟩,λb o e u_=>j1 b o e,λb o M e u_ u_=>⟨o.vT,j1 b o e⟩,λb o e=>⟨o,j1 b o e⟩,k0⟩;haveI qv:=W▸cellsFrom_names fd.jp.em 0 (s.bh.kq.hN+1) [] [] rfl▸K.np;have ae:∀n c,u.np.eh n=ap c->d4.wP h1 c (bindC u.n1 (em.zip us) (λu_=>bk) n):=λn c a=>x.E2 n c a;have O:∀{b w},(P.o4 u.gX u.np).k0 b=w->(w=.f5 u.gX/\(b=u.gX\/b∈u.np.hC (·.2)))\/P.k0 b=w:=λ{b w} e=>by
  clear n ae qv k0 X aa ns j1 Z N L B Y J W U x T hu r ac;by_cases q:b=u.gX\/b∈u.np.hC (·.2)
  ·exact .u0 ⟨e.symm.trans (et q),q⟩
  ·exact .wl ((dx q).symm.trans e)
 have S1:iz G.D Fw (P.o4 u.gX u.np) d h1:=by
  refine⟨λb t k e=>?_,λb M e=>?_,λu_ b M e=>?_,λb o e=>⟨j1 b o (S.h.tg b o e).1,(k0 b o (S.h.tg b o e).1).trans (S.h.tg b o e).2⟩,λt k o e=>?_,S.h.fresh,S.h.DD.kx (λb e=>(O e).ef (λz=>bf GX.b4 z.1 rfl) id) λb o f e=>⟨j1 b o e,(k0 b o e).trans f⟩⟩
  ·exact(O e).ef (λz=>bf GX.b4 z.1 rfl) λq=>(S.h.min b t k q).DO λo q=>j1 b o q
  ·clear n ae qv k0 X ns j1 Z N L B Y J W U x T hu r ac K;rcases O e with⟨z,rfl |q⟩ |q
   ·clear o e f w O aa tk h1;cases z;exact a5.i3 _
   ·clear o e f w O tk h1;cases z;exact a5.l6 (aa b q)
   ·exact S.h.low b M q
  ·clear u_ n k0 X aa Z N L B Y J W U x T hu r ac K;rcases O e with⟨z,rfl |q⟩ |q
   ·exact Ns.rE ns
   ·clear z o e f M w O ns j1 tk;obtain⟨p,hm,rfl⟩:=am.JQ.mp q;exact wP.rE (ae p.1 p.2 (lookup_of_mem_nodup qv hm))
   ·exact(S.h.qL trivial b M q).DO λo z=>⟨j1 b o z.1,z.2⟩
  ·haveI r:=(S.h.ed t k o e).1;haveI w:=(S.h.ed t k o e).2;exact aN (S.h.min _ t k w) λo1 g1=>⟨r.hC (λr=>r.kx X.q7) w rfl λb y D g=>⟨j1 b y g,(k0 b y g).trans D⟩,(k0 _ _ g1).trans w⟩
 have E4:(P.o4 u.gX u.np).k0 u.gX=.f5 u.gX:=et (.u0 rfl);have BH:∀n c,u.np.eh n=ap c->(P.o4 u.gX u.np).k0 c=.f5 u.gX/\c≠u.gX:=λn c a=>by
  have m:c∈u.np.hC (·.2):=am.JQ.ow (aR _ (JU a) rfl);exact⟨et (.wl m),λz=>a5.q5 _ (z▸aa c m)⟩
 have vh:∀(i:a5) (v:V),em.ah<=i->(w++am.f7 n V.i1)[i]?=ap v->v=.i1:=λi v hi e=>by
  rw[am.getElem?_append_right (ab T hi)]at e;exact(am.mem_replicate.mp (am.mem_of_getElem? e)).2
 have JY:((em.zip us).hC (·.1)).p9:=by rw[vc hu];exact K.nd
 have af:∀(i:a5) (nm:h9) (v:V),C.sl[i]?=ap nm->(w++am.f7 n V.i1)[i]?=ap v->v≠ .i1->i<em.ah/\∃I,(nm,I)∈em.zip us/\aF (P.o4 u.gX u.np) d h1 v I:=λi nm v D g R=>by
  have hi:=a5.lt_of_not_le λh=>R (vh i v h g);rw[am.getElem?_append_left (ab T hi)]at g;exact ar (r g R) λI E e5=>⟨hi,I,Bi (K.at_ i nm hi D) E,e5.kx X.q7⟩
 have HZ:∀nm,C.kd nm=ap .E2->(u.np.eh nm).z_=true:=λnm q=>by exact ab W (cellsFrom_some _ _ _ (.u0 ((K.kd nm).trans q)))
 refine⟨⟨⟨S1,S.r⟩,⟨⟨E4,⟨_,ns,λi nm v D g R E=>?_⟩,λnm c a=>⟨⟨_,(BH nm c a).1⟩,_,ae nm c a⟩,λi nm v D g R E=>?_,J▸K.s9,L,N,λnm e=>?_⟩,
  Y,BH,λn n' c h h'=>name_of_addr x.apart (JU h) (JU h'),λi nm hi e=>?_,K.zv,λj v hj e=>vh j v (a5.bb K.le hj) e⟩,⟨B,λe=>Z.1▸Z.2▸K.ctx e⟩,?_,?_⟩,X,a5.mZ U.symm⟩
 ·obtain⟨u_,I,m,r⟩:=af i nm v D g R;exact aR I (jc E JY m) r
 ·obtain⟨hi,I,m,r⟩:=af i nm v D g R;have kc:C.kd nm=ap .E2:=by
   clear r m I X BH N L R g ns HZ af JY vh E4;rcases K.has i nm (a5.ew hi K.le) D with q |q
   ·rw[B,q]at E;clear q r hi v n D;rcases E with E |E<;>cases E
   ·exact q
  refine aN (bS.v8.mp (HZ nm kc)) λc a=>?_;have:=ae nm c a;rw[AN (by rw[B,kc];nofun) JY m]at this;exact eN c I a this r
 ·rw[B]at e;exact e.ef (HZ nm) λe=>kk e (K.j2 nm)
 ·exact(K.has i nm hi e).DO (λq=>(B nm).trans q) λq=>⟨(B nm).trans q,HZ nm q⟩
 ·refine ar ac.un λl f1 f2=>?_;refine⟨⟨u::l,by unfold ec.Ki;exact f1▸rfl,λe GW=>?_⟩,by have:=ac.Lw;unfold ec.Ki;dsimp only;exact a5.succ_add _ _▸(by assumption),by have:=ac.FD;unfold ec.Ki;dsimp only;lia,ac.hd,ac.gd⟩;clear f1 r X BH N L HZ af JY vh;rcases am.hD.mp GW with rfl |GW
  ·refine ar (Ns.rE ns) λo q1 q2=>?_;exact⟨by refine J▸K.s9▸?_;decide,_,o,Y,E4,q1,q2⟩
  ·obtain⟨kd,ad,o,q1,q2,q3,q4⟩:=f2 e GW;exact⟨kd,ad,o,q1,(k0 ad o q3).trans q2,j1 ad o q3,q4⟩
 ·refine ar ac.un λl f1 f2=>?_;exact⟨l,by delta ec.Ki;exact f1▸rfl⟩
def yo(fl:Fl)(d:H):R V:=match fl with | .rt v=> .ok v d | .ex c=> .exc c d |_=> .ok .bk d
theorem CA.of(K:MC f F o fd lV em C)(j:w.ah=em.ah)(hb:Ex fd em ci w)(hs:SB lp Q (w++am.f7 n .i1) d F.lV fl aL U)(hf:fl≠ .br):CA lp (Q+1) f ci d (yo fl U):=⟨λA P s us S ac r E k=>by
 haveI dW:=S.dW (G.ok S.lv);refine ar (hb s us P d dW r) λws b1 l=>rK (G.ok S.lv).top λp zm N O T=>?_;haveI y:=T.nolimit.Lx λb o e=>(S.h.tg b o e).1;have m:=j.symm.trans l.ah;refine rf (a5.fp (a5.bb (a5.bb (a5.f0 _ _) (a5.f0 _ _)) ac.Lw) av) (dW _ _ K.LL) K.hy K.co K.gen K.b_ (codeRec_of dW K.J1) (cl (b1 _ _ _ _ ?_));refine K.FX▸(cl (Ev K.s9 (λx B=>?_) λu D s1 x=>⟨y.Lx x.Ej.j1,qK ?_⟩))
 ·have:=am.Ic (f:=(·.1)) B;rw[vc m]at this;obtain⟨i,hi⟩:=am.mem_iff_getElem?.mp this;exact(K.arg i x.1 hi).DO (λq=>(K.kd _).trans q) λq=>⟨(K.kd _).trans q,cellsFrom_some _ _ _ (.u0 ((K.kd _).trans q))⟩
 refine Hb (zy (n:=n) K S ac (λe R=>l.LL e) m j D x) λa1 h a=>?_;replace a:=λb o (e:s.bh.ck b=ap o)=>a5.ew (d4.JL e) a;refine hs C F.nf lV K.tB (A.Ki u) u _ s1 a1 _ _ (λg s' P' S' H t z=>?_) λc e s' P' z J t=>?_
 ·haveI X:=At.hW S.h.low a h H;cases fl with
  |nx=>obtain rfl:g=.next:=z;exact k .bk s' P' S' X rfl
  |br=>exact kk rfl hf
  |rt v=>obtain⟨I,rfl,z⟩:=z;exact k I s' P' S' X z
  |ex c=>exact z.ef
 ·subst z;exact qz (ac.mr h) t J λL M=>k e L P' (M.hW S.h.low a h)⟩
end
end Internal
end
section
open PySem PySem.W PyProof.Rows
namespace Tactic
open Builtin Builtin.ObjectAttr
def refOf(v:a9):am e9:=match v with | .bs a=> [a] |_=> []
theorem oZ(y6:a9):∀rs:am e9,refuseLoop y6 "__setattr__" (rs.hC a9.bs++sF)=h8 ():=by
 intro a
 induction a with
 |iv=>
  kernel_rfl
 |d2 c r b=>
  exact(refuseLoop_ref ..).trans (b)
theorem uv{T:z8}{b:ct}(h:sF.b6 (.fX T)=b):∀rs:am e9,(rs.hC a9.bs++sF).b6 (.fX T)=b:=by
 intro a
 induction a with
 |iv=>
  exact h
 |d2 c r d=>
  rw[am.wL,am.cons_append,am.contains_cons,d];rfl
theorem iQ{T:z8}{b:ct}{l:am a9}(h:sF.b6 (.fX T)=b)(e:∃rs:am e9,l=rs.hC a9.bs++sF):l.b6 (.fX T)=b:=e.ef λrs e=>e▸uv h rs
theorem wy(y6:a9){l:am a9}(e:∃rs:am e9,l=rs.hC a9.bs++sF):refuseLoop y6 "__setattr__" l=h8 ():=e.ef λrs e=>e▸oZ y6 rs
structure cG(K:Frag)(C fI:e9)(cd:ro):Prop where
 mm:clsIn K C=ap cd
 oa:∃o,K.eh C=ap o/\o.mm=.fX "type" /\(o.vT.q6[4]?).join=ap (.eu "ValueError.__new__")
 HE:cd.hasDel=false
 M1:cd.abstract=false
 BT:cd.hasDict=true
 mro:∃rs:am e9,cd.mro=rs.hC a9.bs++sF
 y6:cd.mro.b6 (.bs C)=true
 ng:specialIn K (.bs C) "__call__" =ap (ap (.eu "type.__call__"))
 typ:instIn K (.bs C) (.fX "type")=ap true
 init:H5 K (.bs C) "__init__" =ap (ap (.bs fI))
 fn:typeIn K (.bs fI)=ap (.fX "function")
 EV:H5 K (.bs C) "__setattr__" =ap (ap (.eu "object.__setattr__"))
 Ht:KT K C "reason" =ap bk
 j1:Kr K (.bs C)=true
theorem cG.ed{K:Frag}{C fI:e9}{cd:ro}(Y:cG K C fI cd):∃od sl,K.eh C=ap ⟨.fX "type",od,.mm cd,sl⟩/\(sl.q6[4]?).join=ap (.eu "ValueError.__new__"):=by
 refine a4.aD λd a=>?_;obtain⟨⟨c,od,Q,sl⟩,b,e,hs⟩:=Y.oa;refine a ?_;clear a;have:=Y.mm;unfold clsIn at this;replace this:=b▸this;clear d Y fI;cases Q with
 |mm f=>obtain rfl:f=cd:=bS.ap.zv this;clear this;obtain rfl:c=_:=e;exact a4.gZ od sl b hs
 |_=>exact(a4.dE this)
section
variable{K:Frag}{C fI:e9}{cd:ro}{M:z3}{h:d4}
theorem cG.ne(Y:cG K C fI cd):∃c l,cd.mro=c::l:=by
 have:=Y.y6;cases q:cd.mro with
 |iv=>replace this:=q▸this;exact a4.dP this
 |d2 c l=>exact a4.xK c l rfl
theorem cG.Kj(Y:cG K C fI cd)(X:K.In h)(b:a9):r5 M h (K3 (.bs C) b) (cd.mro.b6 b):=by refine a4.f_ Y.ne λc l a=>?_;exact looks_mroIn X (by unfold mroIn;rw[Y.mm,bS.bind_some,dx (by refine a▸?_;simp)])
theorem cG.B0(Y:cG K C fI cd)(X:K.In h):r5 M h (mroOf (.bs C)) cd.mro:=(looks_clsIn X Y.mm).Ch .now
theorem cG.made(Y:cG K C fI cd)(X:K.In h):r5 M h (Bind.madeBy (.bs C)) (ap "ValueError.__new__"):=by intro A E L s k q;refine a4.f_ Y.ne λc l a=>?_;refine a4.aO Y.ed λod sl b hs=>?_;unfold Bind.madeBy;refine a7 (Y.B0 X A _ L s k ?_);refine a4.ab (a) ?_;rw[am.forIn_cons];refine a7 (a7 (a7 (a7 (H6 (k _ _ (X _ _ b)) (cp ?_)))));skip;exact a4.ab ((rv.getElem?_toList).symm) (a4.ab hs (cp (cp (cp q))))
theorem cG.tg(Y:cG K C fI cd)(X:K.In h):r5 M h (Bind.staticBase (.bs C)) (.bs C):=by intro A E L s k q;refine a4.f_ Y.ne λc l a=>?_;skip;refine a7 (Y.B0 X A _ L s k ?_);refine a4.ab (a) ?_;rw[am.forIn_cons];exact a7 (a7 (a7 (Y.made X A _ L s k (cp (cp (cp q))))))
theorem cG.here(Y:cG K C fI cd)(X:K.In h):r5 M h (Bind.madeHere "BaseException.__new__" (.bs C)) ():=by intro A E L s k q;skip;refine a7 (Y.tg X A _ L s k (a7 (Y.made X A _ L s k ?_)));skip;exact cp q
end
abbrev gv(C t:e9):Do:={mm:=.bs C,hy:=.j3 #[.bs t,.bk,.bk,.bk,.gg false,.bk]}
abbrev xX(vs:am a9):Do:={mm:=.fX "tuple",hy:=.seq vs.eb}
section
variable{bZ:mS}{w:tq}{A:ec}{R:r3->a6->Prop}{s:a6}{K:Frag}{C fI:e9}{cd:ro}
abbrev lX:Prop:=∀(Y:cG K C fI cd) (X:K.In s.bh) {I:a9} (a:R (.ok (.ret (.bs (s.bh.kq.hN+1)))) {s with bh:=(s.bh.o4 (xX [I])).o4 (gv C s.bh.kq.hN)}),a8.codeAny (dd bZ w) A (.eu "ValueError.__new__" ⟨[.bs C,I],[]⟩) R s
theorem Cv:∀{bZ w A R s K C fI cd},@lX bZ w A R s K C fI cd:=by
 refine λ{bZ w A R s K C fI cd}=>a4.cK (q:=a4.nk @lX) ((?_:∀bZ w A R s K C fI cd,@lX bZ w A R s K C fI cd) _ _ _ _ _ _ _ _ _) (bZ,w,A,R,s,K,C,fI,cd);intro bZ w A R s K C fI cd Y X I c;haveI a:=F.HC;haveI i:=a.ends;refine a4.aO Y.ed λod sl d hs=>?_;haveI e:=X _ _ d;haveI f:=Y.Kj (M:=dd bZ w) X (.fX "ValueError");rw[iQ (b:=true) (by decide) Y.mro]at f;haveI g:=Y.Kj (M:=dd bZ w) X (.fX "AttributeError");rw[iQ (b:=false) (by decide) Y.mro]at g;haveI h:=Y.Kj (M:=dd bZ w) X (.fX "NameError");rw[iQ (b:=false) (by decide) Y.mro]at h;haveI hh:=Y.here (M:=dd bZ w) X;refine codeAny_builtinAt a.entry ?_;unfold l7.«BaseException.__new__»;refine a8.wpAt_bind ?_;skip;refine a8.wpAt_bind (a8.wpAt_stack λp j=>a8.wpAt_of_wpAny ?_)
 wp_walk
 refine a8.wpAt_of_wpAny ?_;refine a.It▸?_
 repeat lk
 refine nd_load (d4.e7 _ (d4.e7 _ e)) ?_;haveI nd:=Y.HE
 repeat (first |rw[nd,dx ct.wT] |lk)
 rw[d4.size_push];exact c
abbrev iO{I:a9}{L:a9->a6->Prop}{M:z3}:Prop:=∀(Y:cG K C fI cd) (X:K.In s.bh),a8.ch M A (p3 "ValueError.__new__" ⟨[.bs C,I],[]⟩) (λZ a=>a=s) L s
theorem wG:∀{A s K C fI cd I L M},@iO A s K C fI cd I L M:=by
 refine λ{A s K C fI cd I L M}=>a4.cK (q:=a4.nk @iO) ((?_:∀A s K C fI cd I L M,@iO A s K C fI cd I L M) _ _ _ _ _ _ _ _ _) (A,s,K,C,fI,cd,I,L,M);intro A s K C fI cd I L M Y X;haveI a:=F.HC;haveI e:=a.noStar;refine a4.aO Y.ed λod sl c hs=>?_;haveI f:=X _ _ c;haveI d:=Y.Kj (M:=M) X (.fX "ValueError");rw[iQ (b:=true) (by decide) Y.mro]at d;haveI hb:=Y.tg (M:=M) X;haveI g:=Y.made (M:=M) X;delta p3;rw[a.newKind,a.newSplit,a.newRow]
 repeat (first |rw[bne_self_eq_false,dx ct.wT] |lk)
 all_goals rfl
end
section
variable{bZ:mS}{w:tq}{A:ec}{R:r3->a6->Prop}{L:a9->a6->Prop}{s:a6}{K:Frag}{C fI:e9}{cd:ro}
abbrev i5{n:h9}{e:e9}{ob:Do}{od:bS Do}{I:a9}{E:y5->a6->Prop}:Prop:=∀(Y:cG K C fI cd) (X:K.In s.bh) (be:InstAt s.bh e ob C od) (tk:KT K C n=ap bk) (h:∀b a c,(∀s',E () s'->a (.done (.ret .bk)) s')->a8.ch (dd bZ w) A.in1 (storeInOwnDict (.bs e) (.bs C) (.J6 n s.hO) n I b) a c {s with hO:=s.hO+1}),a8.ch (dd bZ w) A (setAttr (.bs e) n I) E L s
theorem pG:∀{bZ w A L s K C fI cd n e ob od I E},@i5 bZ w A L s K C fI cd n e ob od I E:=by
 refine λ{bZ w A L s K C fI cd n e ob od I E}=>a4.cK (q:=a4.rM @i5) ((?_:∀bZ w A L s K C fI cd n e ob od I E,@i5 bZ w A L s K C fI cd n e ob od I E) _ _ _ _ _ _ _ _ _ _ _ _ _ _ _) (bZ,w,A,L,s,K,C,fI,cd,n,e,ob,od,I,E);intro bZ w A L s K C fI cd n e ob od I E Y X be tk h;haveI c:=a8.F.store_object;haveI d:K.In ({s with hO:=s.hO+1}:a6).bh:=X;refine set_plain X be Y.EV ?_;haveI Kj:r5 (dd bZ w) s.bh (isInstance (.bs e) (.fX "object")) true:=by
  have:=Y.Kj (M:=dd bZ w) X (.fX "object");rw[iQ (b:=true) (by decide) Y.mro]at this;exact be.fX.Ch this
 refine D8 c.oa.rE c.entry (@check_slot (dd bZ w) _ _ {s with hO:=s.hO+1} "object.__setattr__" "object" "__setattr__" (.bs e) [.J6 n s.hO,I] [] _ c.s9 c.split Kj (c.args (.bs e) (.J6 n s.hO) I) ?_);refine a4.ar (bS.bind_eq_some_iff.mp tk) λev ha f=>?_;haveI i:r5 (dd bZ w) s.bh (storeTaker? ev) bk:=by
  clear ha Kj d c be h E I e Y;cases ev with
  |bk=>exact .now
  |ap a=>
   refine a4.ar (bS.map_eq_some_iff.mp f) λb hb q=>?_;refine(looks_takesIn X hb).Ch ?_;clear hb f X;cases b<;>first |exact .now |exact a4.oP q
 rw[osa_eq,refuse_eq];haveI g:InstAt ({s with hO:=s.hO+1}:a6).bh e ob C od:=be;refine a8.a7 (a7 (g.fX.here (a7 ((Y.B0 d).here ?_))));refine(wy _ Y.mro)▸?_;exact a8.cp (a7 (g.fX.here (a7 ((looks_findIn d ha).here (a7 (r5.here (s:={s with hO:=s.hO+1}) i (h _ _ _ λs' q=>q)))))))
abbrev lW{n:h9}{e t:e9}{I:a9}{E:y5->a6->Prop}:Prop:=∀(Y:cG K C fI cd) (X:K.In s.bh) (tk:KT K C n=ap bk) (c:s.bh.ck e=ap (gv C t)) (d:∀h' tk a,(∀b o,b≠e->s.bh.ck b=ap o->h'.ck b=ap o)->h'.ck e=ap {gv C t with BT:=ap a}->s.bh.ck a=bk->h'.Ns1 a (λx=>if x=n then ap I else bk)->E () {s with bh:=h',hO:=tk}),a8.ch (dd bZ w) A (setAttr (.bs e) n I) E L s
theorem Cu:∀{bZ w A L s K C fI cd n e t I E},@lW bZ w A L s K C fI cd n e t I E:=by
 refine λ{bZ w A L s K C fI cd n e t I E}=>a4.cK (q:=a4.vd @lW) ((?_:∀bZ w A L s K C fI cd n e t I E,@lW bZ w A L s K C fI cd n e t I E) _ _ _ _ _ _ _ _ _ _ _ _ _ _) (bZ,w,A,L,s,K,C,fI,cd,n,e,t,I,E);intro bZ w A L s K C fI cd n e t I E Y X tk a g;have be:InstAt s.bh e (gv C t) C bk:=⟨a,rfl,rfl,trivial⟩;haveI h:K.In ({s with hO:=s.hO+1}:a6).bh:=X;refine pG Y X be tk λb v x k=>?_;refine a8.a7 (m:=ownStreamTells (.bs e) (.bs C)) (cp ?_);show a8.ch _ _ (instanceDict e true>>=_) _ _ _;refine a8.a7 ?_;refine a8.a7 (H6 a ?_);show a8.ch _ _ (classData C>>=_) _ _ _;refine a8.a7 ((looks_clsIn h Y.mm).here ?_);rw[Y.BT];refine a8.a7 (wpAny_alloc ?_);haveI c:(s.bh.o4 E1).ck e=ap (gv C t):=d4.e7 _ a;refine a8.a7 (wpAny_update c ?_);refine a8.cp ?_;haveI d:e≠s.bh.kq.hN:=a5.sK (d4.JL a);show a8.ch _ _ (storeInDict s.bh.kq.hN (.J6 n s.hO) n I) _ _ _;haveI i:=d4.mv (λo:Do=>{o with BT:=ap s.bh.kq.hN}) c rfl;haveI j:((s.bh.o4 E1).G0 e λo=>{o with BT:=ap s.bh.kq.hN}).ck s.bh.kq.hN=ap E1:=(d4.get?_update_ne _ _ _ _ (Ne.symm d)).trans (d4.m8 _ rfl);haveI l:((s.bh.o4 E1).G0 e λo=>{o with BT:=ap s.bh.kq.hN}).Ns s.bh.kq.hN (λZ=>bk):=(a4.xJ _ (#[]) _ j rfl (λe a=>kk a (by simp)) (λZ=>rfl));refine a8.a7 (a8.cp (a8.a7 (wpAny_nsSet1 (d4.Ns1.of_empty l) λh' f hs=>?_)));refine a4.rL (f.count (Within.d2 n I Within.iv)) λoD y z p r u=>?_;refine a8.a7 (IC p (r▸pastItsLine_dict (a5.bb u (by refine a4.ab am.o3 (a4.ab am.IK (a4.ab ut ?_));exact a5.succ_pos _))) ?_);refine a8.cp (k _ (g h' _ s.bh.kq.hN (λb o hb q=>?_) ?_ (a8.d4.Cn (a5.i3 _)) f))
 ·exact(hs.2 b (a5.sK (d4.JL q))).trans ((d4.get?_update_ne _ _ _ _ hb).trans (d4.e7 _ q))
 ·exact(hs.2 e d).trans i
abbrev j8{n:h9}{e t a:e9}{I:a9}{m:h9->bS a9}{ns:am h9}{E:y5->a6->Prop}:Prop:=∀(Y:cG K C fI cd) (X:K.In s.bh) (tk:KT K C n=ap bk) (b:s.bh.ck e=ap {gv C t with BT:=ap a}) (hn:s.bh.Ns1 a m) (c:Within m ns) (d:ns.ah<=5) (f:∀h' tk,d4.nT a s.bh h'->E () {s with bh:=h',hO:=tk}),a8.ch (dd bZ w) A (setAttr (.bs e) n I) E L s
theorem zO:∀{bZ w A L s K C fI cd n e t a I m ns E},@j8 bZ w A L s K C fI cd n e t a I m ns E:=by refine λ{bZ w A L s K C fI cd n e t a I m ns E}=>a4.cK (q:=a4.Dw @j8) ((?_:∀bZ w A L s K C fI cd n e t a I m ns E,@j8 bZ w A L s K C fI cd n e t a I m ns E) _ _ _ _ _ _ _ _ _ _ _ _ _ _ _ _ _) (bZ,w,A,L,s,K,C,fI,cd,n,e,t,a,I,m,ns,E);intro bZ w A L s K C fI cd n e t a I m ns E Y X tk c hn d f g;haveI h:K.In ({s with hO:=s.hO+1}:a6).bh:=X;refine a4.rL (hn.ns) λod es u i Z Z=>pG Y X (od:=ap od) ⟨c,rfl,rfl,i⟩ tk λb v x k=>?_;refine a8.a7 (m:=ownStreamTells (.bs e) (.bs C)) (cp ?_);show a8.ch _ _ (instanceDict e true>>=_) _ _ _;refine a8.a7 ?_;refine a8.a7 (H6 c ?_);show a8.ch _ _ (classData C>>=_) _ _ _;refine a8.a7 ((looks_clsIn h Y.mm).here ?_);rw[Y.BT];refine a8.cp ?_;show a8.ch _ _ (storeInDict a (.J6 n s.hO) n I) _ _ _;haveI j:({s with hO:=s.hO+1}:a6).bh.Ns1 a m:=hn;refine a8.a7 (a8.cp (a8.a7 (wpAny_nsSet1 j λh' l hs=>?_)));refine a4.rL (l.count (Within.d2 n I d)) λoD y z o p r=>?_;refine a8.a7 (IC o (p▸pastItsLine_dict (a5.bb r (by refine a4.ab am.o3 (a4.ab ut ?_);exact a5.bb (a5.ic f) a4.av))) ?_);exact a8.cp (k _ (g h' _ hs))
abbrev j9{e t:e9}{I:a9}{E:a9->a6->Prop}:Prop:=∀(Y:cG K C fI cd) (X:K.In s.bh) (a:s.bh.ck e=ap (gv C t)) (c:∀h',(∀b o,b≠e->s.bh.ck b=ap o->h'.ck b=ap o)->h'.ck e=ap (gv C s.bh.kq.hN)->E .bk {s with bh:=h'}),a8.ch (dd bZ w) A (a8.ng (.eu "ValueError.__init__") [.bs e,I]) E L s
theorem zP:∀{bZ w A L s K C fI cd e t I E},@j9 bZ w A L s K C fI cd e t I E:=by
 refine λ{bZ w A L s K C fI cd e t I E}=>a4.cK (q:=a4.kC @j9) ((?_:∀bZ w A L s K C fI cd e t I E,@j9 bZ w A L s K C fI cd e t I E) _ _ _ _ _ _ _ _ _ _ _ _ _) (bZ,w,A,L,s,K,C,fI,cd,e,t,I,E);intro bZ w A L s K C fI cd e t I E Y X f g;haveI c:=a8.F.HC;haveI i:=c.noStar;haveI j:r5 (dd bZ w) s.bh (isInstance (.bs e) (.fX "ValueError")) true:=by
  have:=Y.Kj (M:=dd bZ w) X (.fX "ValueError");rw[iQ (b:=true) (by decide) Y.mro]at this;exact(r5.Ch (r5.ld (part:=ap headPart) f) .now).Ch this
 refine a4.aO Y.ed λod sl h hs=>?_;haveI k:=X _ _ h;refine a8.wpAny_call (D8 c.init.rE c.initEntry ?_);delta p3;rw[c.initKind,c.initSplit,c.initRow]
 repeat (first |rw[ct.not_true,dx ct.wT] |lk)
 haveI d:(s.bh.o4 (xX [I])).ck e=ap (gv C t):=d4.e7 _ f;refine nd_load d ?_;refine a8.cp ?_;refine a8.cp (a:= #[a9.bs t,.bk,.bk,.bk,.gg false,.bk]) ?_;refine a8.cp (a:=a9.bs t) (a8.a7 ?_);refine Ii d rfl ?_ ?_
 ·show 0<6;decide
 refine a8.wpAny_letGo (a8.cp (g _ (λb o hb q=>?_) ?_))
 ·exact(d4.get?_update_ne _ _ _ _ hb).trans (d4.e7 _ q)
 ·exact d4.mv _ d rfl
end
end Tactic
namespace Internal
open Tactic
section
variable{bZ:mS}{w:tq}{A:ec}{R:r3->a6->Prop}{s:a6}{K:Frag}{C fI:e9}{cd:ro}
abbrev j_(s:a6)(C:e9)(I:a9):a6:={s with bh:=(s.bh.o4 (xX [I])).o4 (gv C s.bh.kq.hN)}
abbrev n9:Prop:=∀(Y:cG K C fI cd) (X:K.In s.bh) {I:a9} (a:az (dd bZ w) (A.under (.eu "type.__call__" ⟨[.bs C,I],[]⟩)) (.ng (.bs fI) ⟨[.bs (s.bh.kq.hN+1),I],[]⟩) (InitBack (s.bh.kq.hN+1) R) (j_ s C I)),az (dd bZ w) A (.ng (.bs C) ⟨[I],[]⟩) R s
theorem FP:∀{bZ w A R s K C fI cd},@n9 bZ w A R s K C fI cd:=by
 refine λ{bZ w A R s K C fI cd}=>a4.cK (q:=a4.nk @n9) ((?_:∀bZ w A R s K C fI cd,@n9 bZ w A R s K C fI cd) _ _ _ _ _ _ _ _ _) (bZ,w,A,R,s,K,C,fI,cd);intro bZ w A R s K C fI cd Y X I h;refine a4.aO Y.ed λod sl d hs=>?_;haveI d:=X _ _ d;have ng:=looks_specialIn (M:=dd bZ w) X Y.ng;have typ:=looks_instIn (M:=dd bZ w) X Y.typ;refine aI rfl ?_;skip;refine aa (cJ d ?_);skip;unfold callAny.viaDunder;refine look ng (λZ Z e=>e) ?_;dsimp only;rw[tc_bind];refine aa (af (aa (af ?_)));refine af (a:=Fin.J2 (.ng (.eu "type.__call__") ⟨[.bs C,I],[]⟩)) (And.intro rfl ?_);refine kl (KM.quiet_builtin _ (by decide+kernel)) entry_typeCall (by decide+kernel) (check_slot tc_kind tc_split typ (tc_args _ _ _) rfl) ?_;skip;haveI f:∀b o,s.bh.ck b=ap o->s.bh.ck b=ap o:=λZ Z e=>e;skip;refine look (Y.B0 X) f ?_;refine a4.f_ Y.ne λc l i=>?_;refine a4.ab i ?_;skip;refine look (Y.made X) f ?_;skip;refine aa (af ?_);haveI tB:a8.codeAny (dd bZ w) (A.under (.eu "type.__call__" ⟨[.bs C,I],[]⟩)) (.ng (.eu "ValueError.__new__") ⟨[.bs C,I],[]⟩) (λr s'=>r=.ok (.ret (.bs (s.bh.kq.hN+1)))/\s'=j_ s C I) s:=
  codeAny_call_builtin_code (KM.quiet_builtin _ F.HC.quiet) (a8.wpAny_mono (qI.wG (A:=ec.in1 (A.under (.eu "type.__call__" ⟨[.bs C,I],[]⟩))) (L:=λZ Z=>uk) (M:=dd bZ w) Y X) (λZ t e=>by clear i l c f typ ng d hs h;subst e;exact qI.Cv Y X ⟨rfl,rfl⟩) λZ Z x=>x.ef)
 refine aa (ak (aT (cz (L9 tB) λr s' e=>?_)));clear tB i l c f typ ng d hs;obtain⟨rfl,rfl⟩:=e;haveI k:∀b o,s.bh.ck b=ap o->(j_ s C I).bh.ck b=ap o:=λb o e=>d4.e7 _ (d4.e7 _ e);haveI m:(j_ s C I).bh.ck (s.bh.kq.hN+1)=ap (gv C s.bh.kq.hN):=by
  have:s.bh.kq.hN+1=(s.bh.o4 (xX [I])).kq.hN:=(d4.size_push _ _).symm;exact a4.ab this (d4.m8 _ rfl)
 have g:K.In (j_ s C I).bh:=λa o e=>k a o (X a o e);have j:r5 (dd bZ w) (j_ s C I).bh (typeOf (.bs (s.bh.kq.hN+1))) (.bs C):=(r5.ld m).Ch .now;haveI y6:r5 (dd bZ w) (j_ s C I).bh (K3 (.bs C) (.bs C)) true:=by have:=Y.Kj (M:=dd bZ w) g (.bs C);rwa [Y.y6]at this
 haveI n:r5 (dd bZ w) (j_ s C I).bh (isInstance (.bs (s.bh.kq.hN+1)) (.bs C)) true:=j.Ch y6;refine look n (λZ Z e=>e) ?_;skip;refine aa (ak ?_);skip;haveI p:r5 (dd bZ w) (j_ s C I).bh (HL (.bs (s.bh.kq.hN+1)) "__init__") (ap (.bs fI)):=j.Ch (looks_findIn g Y.init);refine look p (λZ Z e=>e) ?_;skip;refine ak (look (bind_fn g (.bs (s.bh.kq.hN+1)) Y.fn) (λZ Z e=>e) ?_);refine aa (aT (cz h λr s' z=>?_));clear p n y6 j g m k d sl od h X Y;rcases r with e |(v |_ |_ |_)<;>first |exact z |exact z.ef |skip
 obtain⟨rfl,z⟩:=z;exact af (af z)
end
end Internal
end
section
namespace Internal
open Tactic
theorem gh{e:fY}{n:h9}(h:ud e n=true):∃p,e=.r0 n p:=by refine ar (aj h) λp a q=>?_;clear h;subst a;exact⟨p.2,by exact ab (cx q) rfl⟩
theorem uw{b:am xo}(h:qS b=true):∃p1 m p2 f n p g q i r,b=[.fY (.Call (.HX (.r0 "ValueError" p1) "__init__" m) [.r0 "self" p2,.r0 "reason" f] [] n) p,.LA [.HX (.r0 "self" g) "reason" q] (.r0 "reason" i) r]/\(m.endLine==n.line)=true:=by refine aD λA o=>?_;refine aO (cM h) λs1 B s h=>?_;subst s;refine ar (aj (ao h)) λe d h1=>?_;subst d;refine ar (aj h1) λc j h1=>ar (aj (ao h1)) λa k h2=>aO (cM (ai h1)) λx y u h3=>?_;refine ar (aj (ai h)) λt d h4=>?_;clear h1 h;subst d;refine ar (cu (ao h4)) λt' l h5=>?_;refine ar (aj h5) λC d h5=>?_;clear h1 h;subst d;refine aN (gh (ao h2)) λp1 q1=>?_;refine aN (gh (ao h3)) λp2 d=>?_;subst d;refine aN (gh (ai h3)) λf d=>?_;clear h3;subst d;refine aN (gh (ao h5)) λg v=>aN (gh (ai h4)) λi w=>?_;apply o;clear o;haveI q2:=cx (ao (ai h2));haveI z:=cx (ai h5);replace k:=q2▸q1▸k;replace j:=u▸k▸j;replace l:=z▸v▸l;exact ab j (ab l (ab w (⟨p1,_,p2,f,_,_,g,_,i,_,rfl,ai (ai h2)⟩)))
structure u7(fI:e9)(o:Do)(fd:xF)(lV:am xo):Prop where
 LL:G.D.K.eh fI=ap o
 hy:o.hy=.func fd
 glob:fd.y0=hU
 FX:fd.closure=[]
 Ly:fd.r6=DQ
 b_:fd.lV=.stmts lV
 lines:qS lV=true
 J1:codeIn G.D.K fd.J1 fd.DN=true
 co:fd.jp.DH=false
 gen:fd.jp.DM=false
 s9:fd.jp.s9=.xL
 k1:fd.jp.em.eh ("self" :h9)=ap .local
 k2:fd.jp.em.eh ("reason" :h9)=ap .local
 k3:fd.jp.em.eh ("ValueError" :h9)=ap .sB
 ns:nsIn G.D.K hU "ValueError" =ap bk
 top:findCls G.D.K (.fX "ValueError") (.fX "type") "__init__" =ap (.val (.eu "ValueError.__init__"))
 tb:∀(s:a6) (I v:a9),G.D.K.In s.bh->BindsTo s fd ⟨[I,v],[]⟩ [("self",I),("reason",v)]
theorem Bn:bootBuiltins "ValueError" =ap (.fX "ValueError"):=by decide+kernel
theorem Bl:typeOf (.fX "ValueError")=h8 (.fX "type"):=by kernel_rfl
theorem Bm:Manifest.isStub "ValueError" =false:=by decide+kernel
section
variable{A:ec}{P:Ph}{d:H}{s:a6}{C fI:e9}{cd:ro}{o:Do}{fd:xF}{lV:am xo}
theorem xl{h h1:d4}{e a:e9}{x:Do}(j1:∀b o,b≠e->h.ck b=ap o->h1.ck b=ap o)(c:h1.ck e=ap x)(nd:h1.ck a=bk):h.ck a=bk:=by
 cases q:h.ck a with
 |bk=>rfl
 |ap o=>exact dE (nd.symm.trans (j1 a o (λz=>dE (nd.symm.trans (z▸c))) q))
theorem zQ{S:e9}{u:Cg}{h0:d4}{m:h9->bS a9}{e t:e9}{I:a9}{E:Flow->a6->Prop}{L:a9->a6->Prop}(O:Ok G.D)(Y:cG G.D.K C fI cd)(Z:u7 S o fd lV)
  (tg:∀b o,G.D.hE.ck b=ap o->s.bh.ck b=ap o) (U:G.D.K.In h0) (i:Fr h0 u.gX s.bh m) (F:u.jp=fd.jp)
  (hg:u.y0=fd.y0) (V:u.r6=fd.r6) (m1:m "self" =ap (.bs e)) (H:m "reason" =ap I) (W:s.bh.ck e=ap (gv C t)) (LK:u.gX≠e) (Fx:G.D.hE.ck e=bk)
  (hQ:∀h' tk c t',(∀b o,b≠e->s.bh.ck b=ap o->h'.ck b=ap o)->h'.ck e=ap {gv C t' with BT:=ap c}->s.bh.ck c=bk->h'.Ns1 c (λx=>if x= "reason" then ap I else bk)->E .next {s with bh:=h',hO:=tk}):
  ch (dd G.D.bZ G.D.w) A (a8.KE lV u) E L s:=by
 refine aD λZP J=>?_;obtain⟨p1,K,p2,d,j,p4,y,M,N,p8,rfl,hp⟩:=uw Z.lines;have B:=F▸Z.s9;have kd:∀n,u.n1 n=fd.jp.em.eh n:=λn=>by delta Cg.n1;exact ab F rfl
 have k1:=(kd _).trans Z.k1;have k2:=(kd _).trans Z.k2;haveI k3:=(kd _).trans Z.k3;have X:G.D.K.In s.bh:=λa o e=>tg a o (O.dW a o e);refine rK O.top λp zm mg mb T=>?_;apply J;clear J;haveI k:=T.g.Lx tg;haveI l:=T.b.Lx tg;replace k:=hg.symm▸Z.glob.symm▸k;replace l:=V.symm▸Z.Ly.symm▸l;have nm:∀(x:h9) (v:a9) (Q:Dx) (s':a6) (E:a9->a6->Prop) (L:a9->a6->Prop),(x==("__debug__" :h9))=false->u.n1 x=ap .local->s'.bh.Ns u.gX m->m x=ap v->E v s'->ch (dd G.D.bZ G.D.w) A (a8.pa (.r0 x Q) u) E L s':=
  λx v Q s' E L hd hl ns hm q=>cl (wpAny_Name (DT B hl ns hm q) hd)
 apply aa;rw[exec_Expr u _ p4 (by delta interactive;exact B▸rfl) (bK rfl)];refine aa (ax (aa ?_));show ch _ A (a8.pa (.r0 "ValueError" p1) u>>=λg=>kK K.atName>>=λ_=>methodCall (.r0 "ValueError" p1) "__init__" K j u g 2 (Fu j (tC [.r0 "self" p2,.r0 "reason" d] u)) []) _ _ s;refine aa (cl (Calls.DV B k3 (Calls.loadGlobal_builtin k (mg_none_of O.dW T.g Z.ns) l ((T.r6 "ValueError" (by decide)).trans Bn) (aa (ax ?_))) (by decide)));rw[dV (show(Fu j (tC [.r0 "self" p2,.r0 "reason" d] u)).any (·.1)=false from rfl) av hp];refine aa (ak (cl (method_type (T:= "ValueError") i U Bl Bm Z.top (by decide+kernel) ?_)));apply fW (P:=λ_=>Fw) (show(Fu j (tC [.r0 "self" p2,.r0 "reason" d] u)).any (·.1)=false from rfl) (λhh _=>aR _ (.wl (.u0 rfl)) (r5.of_pure rfl));show ch _ A (a8.pa (.r0 "self" p2) u>>=λw=>a8.ff [w] (a8.pa (.r0 "reason" d) u>>=λw=>a8.ff [w] (h8 [])>>=λr=>h8 ([w] ++r))>>=λr=>h8 ([w] ++r)) _ _ {s with hO:=s.hO+1};refine aa (nm "self" _ p2 _ _ _ (by decide) k1 i.ns m1 (aa (ak (aa (nm "reason" _ d _ _ _ (by decide) k2 i.ns H (aa (ak (af (af (af ⟨trivial,cl (qI.zP Y X W λh1 h D=>cl (wpAny_dropValue ?_))⟩))))))))));haveI X1:G.D.K.In h1:=λa o q=>h a o (λz=>by clear D h h1 T L nm l k mb mg zm p X k3 k2 k1 kd;subst z;exact dE (Fx.symm.trans (O.dW _ _ q))) (X a o q);haveI R:=Ns.vT i.ns λo ho=>⟨o.vT,h _ _ LK ho⟩;show ch _ A (a8.exec (.LA [.HX (.r0 "self" y) "reason" M] (.r0 "reason" N) p8) u>>=λf=>match f with | .next=>a8.KE [] u |f=>h8 f) E L _;rw[qQ (bK rfl) rfl];refine aa (aa (ax (aa (nm "reason" _ N _ _ _ (by decide) k2 R H (aa ?_)))));show ch _ A (a8.ff [I] (a8.pa (.r0 "self" y) u)>>=λg=>kK M.atName>>=λ_=>a8.ff [I,g] (setAttr g "reason" I)>>=λ_=>GE [I,g] []) _ _ _;exact aa (ak (nm "self" _ y _ _ _ (by decide) k1 R m1 (aa (ax (aa (ak (cl (qI.Cu Y X1 Y.Ht D λh2 tk c sq Ip nd nx=>cl (LC (af (af (hQ h2 tk c _ (λb o hb q=>sq b o hb (h b o hb q)) Ip (xl h D nd) nx))))))))))))
end
section
variable{A:ec}{P:Ph}{d:H}{s:a6}{C fI:e9}{cd:ro}{o:Do}{fd:xF}{lV:am xo}
abbrev FQ{lp:ct}{Q:a5}{I:a9}{E:a9->a6->Prop}{L:a9->a6->Prop}:Prop:=∀(O:Ok G.D) (S:St G.D P d s) (ac:Ac lp A P s.bh Q) (Y:cG G.D.K C fI cd) (Z:u7 fI o fd lV) (c:∀h' tk e a t',(∀b o,s.bh.ck b=ap o->h'.ck b=ap o)->s.bh.ck e=bk->h'.ck e=ap {gv C t' with BT:=ap a}->E (.bs e) {s with bh:=h',hO:=tk}),ch (dd G.D.bZ G.D.w) A (a8.ng (.bs C) [I] []) E L s
theorem yt{u:Cg}{x:xE a9}{E:Flow->a6->Prop}{L:a9->a6->Prop}(Y:cG G.D.K C fI cd)(hh:A.z4=bk)
  (h:ch (dd G.D.bZ G.D.w) A x (λv a=>G.D.K.In a.bh/\∃e t c,v=.bs e/\a.bh.ck e=ap {gv C t with BT:=ap c}/\L (.bs e) a) L s):ch (dd G.D.bZ G.D.w) A (raiseStmt u (ap x) bk) E L s:=by
 refine aa (aw h (λv a d=>cl (aD λj f=>?_)) λZ Z x=>x);obtain⟨X,e,t,c,rfl,k,hE⟩:=d;refine aO Y.ed λod sl g hs=>?_;apply f;haveI l:=X _ _ g;haveI i:=Y.Kj (M:=dd G.D.bZ G.D.w) X (.fX "BaseException");rw[iQ (b:=true) (by decide) Y.mro]at i
 repeat lk
 exact a8.wpAny_handled (ab hh (a8.wpAny_throw hE))
end
section
variable{lp:ct}{Q:a5}{C:Cx}{A:ec}{u:Cg}{vs:am V}{P:Ph}{d U:H}{s:a6}{x:X}{v:V}{nf c:a5}{fI:e9}{cd:ro}{o:Do}{fd:xF}{lV:am xo}{t:am a5}
abbrev q_{e:xo}:Prop:=∀(h:fD c9 G.D.ev C nf (.rs c x) e=true),∃f y a bv,e=.Raise (ap (.Call f [y] [] a)) bk bv/\oN c9 C f (.mm c)=true/\bc y=true/\aM c9 G.D.ev C x y=true
theorem Ja:∀{C x nf c e},@q_ C x nf c e:=by refine λ{C x nf c e}=>cK (q:=xO @q_) ((?_:∀C x nf c e,@q_ C x nf c e) _ _ _ _ _) (C,x,nf,c,e);intro C x nf c e h;refine aD λf b=>?_;refine ar (aj (I2.symm.trans h)) λk1 a g=>?_;clear h;subst a;refine ar (cU g) λi q1 g=>?_;refine ar (aj g) λk2 a g=>?_;subst a;refine ar (cu (ai g)) λy q2 d=>?_;apply b;clear b;exact ab q1 (ab q2 (⟨_,y,_,_,rfl,ao g,ao d,ai d⟩))
end
end Internal
end
section
namespace Internal
section
variable{A:ec}{P P':Ph}{d U:H}{h h' h1 B:d4}{sl:am h9}{u:Cg}{vs:am V}{nf x Q:a5}{lp:ct}{l:am Cg}{ea:e9}{ad:e9}{c:a5}{s s':a6}{e:a9}
theorem IsTup.up{a:e9}{us:rv a9}(x:h.UpToSlots h')(t:IsTup h a us):IsTup h' a us:=by obtain⟨o,e,c,n,hd⟩:=t;exact aN (x a o e λws q=>bf Data.b4 (hd.symm.trans q) rfl) λsl b=>⟨_,b,c,n,hd⟩
theorem aF.up(x:h.UpToSlots h'){v:V}{I:a9}(r:aF P d h v I):aF P d h' v I:=r.tJ λa us Z t=>IsTup.up x t
theorem wP.up{c:e9}{v:bS a9}(x:h.UpToSlots h')(hn:h.wP c v):h'.wP c v:=
 ar hn λo a hd=>aN (x c o a λws q=>bf Data.b4 (hd.symm.trans q) rfl) λsl e=>aR _ e hd
theorem lE.up(F:lE nf sl u vs P d h)(x:h.UpToSlots h'):lE nf sl u vs P d h':=by
 refine ar F.ns λm hn e=>⟨⟨F.k0,⟨m,x.ns hn,λi n v a b c Q=>(e i n v a b c Q).DO λI z=>⟨z.1,z.2.up x⟩⟩,λn c a=>?_,λi n v a b c Q=>?_,F.s9,F.glob,F.Ly,F.uE⟩,F.f5,F.eU,F.apart,F.has,F.nd,F.GQ⟩
 ·obtain⟨o,y,q⟩:=F.np n c a;exact⟨o,y,wP.up x q⟩
 ·exact dQ (F.E2 i n v a b c Q) λf I g j k=>eN f I g (wP.up x j) (k.up x)
theorem iB.up(a:iB x lp A P h Q)(y:h.UpToSlots h'):iB x lp A P h' Q:=by refine aD λd b=>ar a.un λl f i=>?_;apply b;refine⟨⟨l,f,λe j=>aD λd b=>?_⟩,a.Lw,a.FD,a.hd,a.gd⟩;obtain⟨k,ad,o,m,n,p,c⟩:=i e j;refine aN (y ad o p c) λsl g=>?_;apply b;exact⟨k,ad,_,m,n,g,c⟩
structure Base(l:am Cg)(P:Ph)(d:H)(h:d4)(B:d4)(ea:e9):Prop where
 S:iz G.D uk P d B
 stays:B.StaysIn h
 py:B.ck ea=bk
 un:h.FunFrames B l
 qL:∀b M,P.k0 b=.f5 M->∃o,h.ck b=ap o/\∀vs,o.hy≠ .j3 vs
structure jg(c:a5)(P:Ph)(h:d4)(ea T:e9)(fl:a9):Prop where
 x:∃oe ws a0 oT ts,h.ck ea=ap oe/\oe.mm=.bs (G.D.mm c)/\oe.hy=.j3 ws/\ws[0]?=ap a0/\ws[1]?=ap (.bs T)/\T≠ea/\h.ck T=ap oT/\oT.hy=.j3 ts/\ts[3]?=ap fl/\P.k0 T=.j2/\G.D.hE.ck T=bk
 k0:P.k0 ea=.j2
 py:G.D.hE.ck ea=bk
theorem Base.j2(b:Base l P d h B ea){a:e9}{o:Do}{ws:rv a9}(n:B.ck a=bk)(e:h.ck a=ap o)(hd:o.hy=.j3 ws):P.k0 a=.j2/\G.D.hE.ck a=bk:=by
 haveI py:G.D.hE.ck a=bk:=by
  cases q:G.D.hE.ck a with
  |bk=>rfl
  |ap c=>exact dE (n.symm.trans (b.S.tg a c q).1)
 refine⟨?_,py⟩;cases q:P.k0 a with
 |j2=>rfl
 |d9 t k=>exact aN (b.S.min a t k q) λc z=>dE (n.symm.trans z)
 |f5 M=>refine ar (b.qL a M q) λc f g=>?_;obtain rfl:=bS.ap.zv (e.symm.trans f);exact kk hd (g ws)
 |DD=>exact aN (b.S.DD.there a q) λc z=>dE (n.symm.trans z)
theorem Base.full(b:Base l P d h B ea):iz G.D Fw P d h:=by haveI m:=(b.S.hA (λa o e=>b.stays a o e)).1;exact⟨m.min,m.low,λZ a M q=>b.qL a M q,m.tg,m.ed,m.fresh,m.DD⟩
end
section
variable{A:ec}{P P':Ph}{d U:H}{h h' h1 B:d4}{sl:am h9}{u:Cg}{vs:am V}{nf Q y:a5}{lp:ct}{l:am Cg}{ea:e9}{c:a5}{s s':a6}{e:a9}
theorem v9.tg{ad:bS e9}(z:v9 G.D ad A c P P' d U h s' ea B)(hf:A.un=ap l):Base l P' U s'.bh B ea/\∃a,s'.bh.TracedW B ea (.bs (G.D.mm c)) a:=
 tF z.zD λa j b e f g i=>ab (bS.ap.zv (hf.symm.trans b)) (⟨⟨z.st,e,f,g,z.fr⟩,a,i⟩)
theorem v9.Ga{ad:bS e9}(z:v9 G.D ad A c P P' d U h s' ea B)(hf:A.un=ap l):St G.D P' U s'/\∃T,jg c P' s'.bh ea T .bk/\∀b o,h.ck b=ap o->P.k0 b=.j2->b≠ea/\b≠T:=by
 refine aD λy g=>?_;obtain⟨b,m,n,ws,T,p,ts,e,⟨r,s⟩,f,t,i,u,j,k,v⟩:=z.tg hf;apply g;clear g;exact⟨⟨b.full,z.r⟩,T,⟨⟨n,ws,m,p,ts,e,r,f,s,t,u,j,k,v,b.j2 i j k⟩,(b.j2 b.py e f).1,(b.j2 b.py e f).2⟩,
  λa o q w=>⟨λx=>(by subst x;exact dE (b.py.symm.trans (z.j1 a o q w))),λx=>(by subst x;exact dE (i.symm.trans (z.j1 a o q w)))⟩⟩
theorem pB{ad:bS e9}(ac:iB y lp A P h Q)(tp:A.un=ap l)(X:At ad P P' d U h h1)(S':iz G.D Fw P' U h1):∀e∈l,e.jp.s9≠ .module/\∃ad o,e.f5=ap ad/\P'.k0 ad=.f5 ad/\h1.ck ad=ap o/\∀vs,o.hy≠ .j3 vs:=λe c=>by
 refine aD λf a=>ar ac.un λp g i=>?_;apply a;obtain rfl:=bS.ap.zv (tp.symm.trans g);refine aD λf a=>?_;obtain⟨kd,ad,o,q1,q2,j,q⟩:=i e c;have b:=(X.k0 ad o j).trans q2;refine ar (S'.qL trivial _ _ b) λk m n=>?_;apply a;exact⟨kd,ad,k,q1,b,m,n⟩
theorem vX(S':iz G.D Fw P' U h1)(f:∀e∈l,e.jp.s9≠ .module/\∃ad o,e.f5=ap ad/\P'.k0 ad=.f5 ad/\h1.ck ad=ap o/\∀vs,o.hy≠ .j3 vs)
  (rs:am e9) (j:∀a,a∈ea::rs->P'.k0 a=.j2/\G.D.hE.ck a=bk/\∃o vs,h1.ck a=ap o/\o.hy=.j3 vs):
  ∃B,Base l P' U h1 B ea/\(∀a,a∈ea::rs->B.ck a=bk)/\∀b o,h1.ck b=ap o->P'.k0 b=.j2->b∉ea::rs->B.ck b=ap o:=by
 have g:∀a,a∈l.C2 (·.f5)->∃M,P'.k0 a=.f5 M:=λa m=>by
  refine aD λk d=>?_;obtain⟨e,c,q⟩:=am.mem_filterMap.mp m;obtain⟨_,ad,o,q1,q2,_⟩:=f e c;apply d;exact ab (bS.ap.zv (q.symm.trans q1)) (⟨_,q2⟩)
 haveI p:∀(r:am Cg),(∀e∈r,e∈l)->h1.FunFrames (hideAll h1 ((ea::rs)++l.C2 (·.f5))) r:=λr=>by
  induction r with
  |iv=>exact λZ=>trivial
  |d2 e r s=>
   intro i;haveI c:=i e (.sk _);refine aD λk d=>?_;obtain⟨kd,ad,o,q1,q2,t,u⟩:=f e c;apply d;exact ix kd ⟨ad,o,q1,Id _ (am.xz _ (am.mem_filterMap.ow ⟨e,c,q1⟩)),t,u⟩ (s λv h'=>i v (.sy _ h'))
 refine mM (hideAll h1 ((ea::rs)++l.C2 (·.f5))) ⟨S'.hide λa m=>?_,λb o e=>of_hideAll _ e,Id _ (.sk _),p _ λZ h=>h,S'.qL trivial⟩ (λa m=>Id _ (am.zi _ m)) (λb o q w n=>hideAll_get _ q λm=>?_)
 ·exact(am.uf.mp m).ef (λm=> .wl (j a m)) λm=> .u0 (g a m)
 ·exact(am.uf.mp m).ef n λm=>(g b m).ef λM z=>bf GX.b4 (w.symm.trans z) rfl
abbrev ke{E:y5->a6->Prop}{L:a9->a6->Prop}:Prop:=∀(ac:iB y lp A P h Q) (tp:A.un=ap (u::l)) (F:lE nf sl u vs P' U s'.bh) (x:dj u.gX A c P P' d U h e s') (k:∀ea B a,e=.bs ea->v9 G.D (ap u.gX) A c P P' d U h a ea B->lE nf sl u vs P' U a.bh->E () a),ch (dd G.D.bZ G.D.w) A (leaving u e) E L s'
theorem Ah:∀{A P P' d U h sl u vs nf Q y lp l c s' e E L},@ke A P P' d U h sl u vs nf Q y lp l c s' e E L:=by
 refine λ{A P P' d U h sl u vs nf Q y lp l c s' e E L}=>cK (q:=xP @ke) ((?_:∀A P P' d U h sl u vs nf Q y lp l c s' e E L,@ke A P P' d U h sl u vs nf Q y lp l c s' e E L) _ _ _ _ _ _ _ _ _ _ _ _ _ _ _ _ _ _ _) (A,P,P',d,U,h,sl,u,vs,nf,Q,y,lp,l,c,s',e,E,L);intro A P P' d U h sl u vs nf Q y lp l c s' e E L ac tp F x k;refine aD λG n=>?_;rcases x with⟨ea,B,rfl,z⟩ |⟨ea,oe,ws,D,rfl,z⟩ |⟨ea,B,rfl,z⟩<;>refine n ?_<;>clear n
 ·refine aD λG n=>tF z.zD λD H s t p v r=>?_;apply n;obtain rfl:=bS.ap.zv (tp.symm.trans s);refine cl (wpAny_leaving_nextW tp v F.f5 r t p λh' f=>?_);haveI i:=f.1;haveI C:=f.2.1;haveI j:=f.2.2.1;haveI g:=f.2.2.2;exact k ea B {s' with bh:=h'} rfl (v9.land tp (mN i p C j) g z.st z.fr z.ext z.j1 z.r) (F.up g)
 ·have X:=z.ext;refine lI (vX z.st.h (pB ac tp X z.st.h) [] λa m=>am.e0.mp m▸⟨z.k0,z.py,oe,ws,z.LL,z.hy⟩) λB b K I=>cl (wpAny_leaving_firstW tp b.un F.f5 z.LL b.stays b.py z.hy z.v1 z.v0 λh' f=>?_);haveI i:=f.1;haveI C:=f.2.1;haveI j:=f.2.2.1;haveI g:=f.2.2.2;replace j:=z.mm▸j;exact k ea B {s' with bh:=h'} rfl (v9.land tp (mN i b.py C j) g b.S b.qL X (λa o q w=>I a o (X.j1 a o q w) ((X.k0 a _ q).trans w) λm=>z.hM a o q w (am.e0.mp m)) z.st.r) (F.up g)
 ·refine tF z.held λD H s t p v r=>?_;obtain rfl:=bS.ap.zv (tp.symm.trans s);refine aa (cl (Ie F.f5 r (cl (wpAny_landsW (mN t p v r) λh' x1 g=>?_))));haveI i:=x1.1;haveI J:=x1.2.1;exact k ea B {s' with bh:=h'} rfl (v9.land tp (mN i J x1.2.2.1 x1.2.2.2) g z.st z.fr z.ext z.j1 z.r) (F.up g)
end
end Internal
end
section
namespace Internal
open Tactic
section
variable{A:ec}{P P' P0:Ph}{d U ay gD:H}{h h' h0 B:d4}{sl:am h9}{C:Cx}{u:Cg}{vs:am V}{nf Q y:a5}{lp:ct}{l:am Cg}{ea T:e9}{c:a5}{s s':a6}{e fl:a9}{x:X}{v:V}{r:am S}
abbrev jg.Lj{ad:bS e9}:Prop:=∀(z:jg c P h ea T fl) (X:At ad P P' d U h h'),jg c P' h' ea T fl
theorem tN{ts:rv a9}{i:a5}{v:a9}(h:ts[i]?=ap v):ts.Da i v=ts:=by
 apply rv.ext_getElem?;intro j;refine ab (rv.getElem?_setIfInBounds) ?_
 split
 ·rename_i q;subst q
  refine ab (et (rv.hv.mp h).1) ?_;exact h.symm
 ·rfl
abbrev iR{fr:bS e9}{E:y5->a6->Prop}{L:a9->a6->Prop}:Prop:=∀(a:jg c P s.bh ea T fl) (k:∀h',(∀b o,b≠T->s.bh.ck b=ap o->h'.ck b=ap o)->jg c P h' ea T (fr.ef .bk λf=>wv f)->(fl=(fr.ef .bk λf=>wv f)->∀b,h'.ck b=s.bh.ck b)->E () {s with bh:=h'}),ch (dd G.D.bZ G.D.w) A (setFlight (.bs ea) fr) E L s
theorem pC:∀{A P ea T c s fl fr E L},@iR A P ea T c s fl fr E L:=by
 refine λ{A P ea T c s fl fr E L}=>cK (q:=kD @iR) ((?_:∀A P ea T c s fl fr E L,@iR A P ea T c s fl fr E L) _ _ _ _ _ _ _ _ _ _) (A,P,ea,T,c,s,fl,fr,E,L);intro A P ea T c s fl fr E L C k;refine aD λg a=>?_;obtain⟨⟨t,ws,u,D,ts,h,v,i,w,j,l,d,m,p,x,y⟩,B,o2⟩:=C;apply a;clear a;refine aa (cl (ul h i j (ab (et (show(a9.bs T !=a9.bk)=true from rfl)) (cl (Ii d m (rv.hv.mp p).1 ?_)))));haveI hd:=Do.data_mapFields m (·.Da 3 (fr.ef a9.bk λf=>wv f));haveI r:=d4.mv (Do.mapFields (·.Da 3 (fr.ef a9.bk λf=>wv f))) d (Do.isFreed_of_fields hd);haveI DG:∀b,b≠T->(s.bh.G0 T (Do.mapFields (·.Da 3 (fr.ef a9.bk λf=>wv f)))).ck b=s.bh.ck b:=λb n=>d4.get?_update_other _ _ (Ne.symm n);refine k _ (λb o n e=>(DG b n).trans e) ⟨⟨t,ws,u,_,_,(DG ea (Ne.symm l)).trans h,v,i,w,j,l,r,hd,rv.getElem?_setIfInBounds_self_of_lt (rv.hv.mp p).1,x,y⟩,B,o2⟩ λe b=>?_;clear o2 B y x hd l j w i v u ws h t k L E;by_cases q:b=T
 ·clear DG;subst q;refine ab r (ab d (aD λg a=>?_));obtain⟨cc,F,dt,sl⟩:=D;apply a;clear a;clear g r d;obtain rfl:dt=_:=m;clear g b;subst e;exact b5 ap (b5 (λz=>({mm:=cc,BT:=F,hy:=.j3 z,vT:=sl}:Do)) (tN p))
 ·exact DG b q
def SH(Q:a5)(vs:am V)(d:H)(hs:am S)(U:H):Prop:=∀C nf b,w7 c9 G.D.ev C hs b=true->∀A u P s c ea T h0 P0 gD,fH false Q C nf A u vs P d s->A.z4=ap (.bs ea)->jg c P s.bh ea T .bk->At (ap u.gX) P0 P gD d h0 s.bh->(∀b o,h0.ck b=ap o->P0.k0 b=.j2->b≠ea/\b≠T)->
 ∀(E:Flow->a6->Prop) (L:a9->a6->Prop),(∀s' P' B,gC u.gX A c P0 P' gD U h0 s' ea B->lE nf C.sl u vs P' U s'.bh->L (.bs ea) s')->ch (dd G.D.bZ G.D.w) A (a8.KE b u) E L s
end
end Internal
end
section
open PySem PySem.W PyProof.Rows
namespace Tactic
abbrev gf{M:z3}{A:ec}{L:a9->a6->Prop}{s:a6}{K:Frag}{C a fI d:e9}{cd e:ro}{b:ct}{ea:e9}{c:Do}{E:ct->a6->Prop}:Prop:=∀(Y:cG K C fI cd) (f:cG K a d e) (hb:cd.mro.b6 (.bs a)=b) (X:K.In s.bh) (g:s.bh.ck ea=ap c) (h:c.mm=.bs C) (i:E b s),a8.ch M A (excMatches (.bs ea) (.bs a)) E L s
theorem sj:∀{M A L s K C a fI d cd e b ea c E},@gf M A L s K C a fI d cd e b ea c E:=by
 refine λ{M A L s K C a fI d cd e b ea c E}=>a4.cK (q:=a4.rM @gf) ((?_:∀M A L s K C a fI d cd e b ea c E,@gf M A L s K C a fI d cd e b ea c E) _ _ _ _ _ _ _ _ _ _ _ _ _ _ _) (M,A,L,s,K,C,a,fI,d,cd,e,b,ea,c,E);intro M A L s K C a fI d cd e b ea c E Y f hb X l i g;obtain⟨cc,m,dt,n⟩:=c;subst i;refine a4.aO f.ed λod sl j hs=>?_;haveI o:=X _ _ j;haveI k:=f.Kj (M:=M) X (.fX "BaseException");rw[iQ (b:=true) (by decide) f.mro]at k;haveI h:=Y.Kj (M:=M) X (.bs a);replace h:=hb▸h;haveI p:r5 M s.bh (K3 (.fX "type") (.fX "tuple")) false:=r5.of_pure tc_notTuple
 repeat lk
 cases b with
 |true=>exact a8.cp (a8.cp (a8.cp g))
 |false=>exact a8.cp (a8.cp (a8.cp g))
end Tactic
namespace Internal
open Tactic
section
variable{A:ec}{P P' P0:Ph}{d U ay gD:H}{h h' h0 h5 B:d4}{sl:am h9}{C:Cx}{u:Cg}{vs aL:am V}{nf Q y:a5}{lp:ct}{l:am Cg}{ea T:e9}{c:a5}{s s':a6}{e:a9}{hs b:am S}{cd:ro}{fI:e9}{fl:Fl}{ad:e9}
theorem vn{bZ:mS}{w:tq}{L:a9->a6->Prop}{c:KM}{E:Flow->a6->Prop}(a:e≠byPass)(b:az (dd bZ w) (A.mark (ap e)) c (λr s'=>match r with | .ok f=>E f s' | .B3 x=>lx (dd bZ w) A u L x s') s):ch (dd bZ w) A (runOwn c u (ap e)) E L s:=by exact aX (jP b (λx=>a (bS.ap.zv x)))
theorem mw{bZ:mS}{w:tq}{R:r3->a6->Prop}{hs:am FM}
  (h:ch (dd bZ w) A (handleWith e u hs) (λf s'=>R (.ok f) s') (fj (dd bZ w) A u R) s):az (dd bZ w) A (.handlers e hs u) R s:=by apply aI rfl;exact aa (aX (aw h (λf s' q=>af q) λZ Z x=>x))
theorem iB.marked{b:ct}(a:iB y b A P h Q):iB y false (A.mark (ap e)) P h Q:=⟨a.un,a.Lw,a.FD,(λz=>a4.dP z),a.gd⟩
theorem ny(g:∀b,h'.ck b=h.ck b):h.UpToSlots h':=λb o e Z=>⟨o.vT,(g b).trans e⟩
abbrev gC.tO:Prop:=∀(g:∀b,h5.ck b=s'.bh.ck b) (x:gC ad A c P P' d U h s' ea B),gC ad A c P P' d U h {s' with bh:=h5} ea B
theorem gC.mx:∀{A P P' d U h h5 B ea c s' ad},@gC.tO A P P' d U h h5 B ea c s' ad:=by
 refine λ{A P P' d U h h5 B ea c s' ad}=>a4.cK (q:=a4.ve @gC.tO) ((?_:∀A P P' d U h h5 B ea c s' ad,@gC.tO A P P' d U h h5 B ea c s' ad) _ _ _ _ _ _ _ _ _ _ _ _) (A,P,P',d,U,h,h5,B,ea,c,s',ad);intro A P P' d U h h5 B ea c s' ad g x;refine a4.aD λF a=>?_;obtain⟨e,l,f,i,j,k,m,ws,T,p,ts,r,s,t,u,v,y,C,D,E⟩:=x.held;apply a;have X:=x.ext;exact⟨⟨e,l,f,λb o q=>(g b).trans (i b o q),j,k.of_keeps λb o q n=>a4.aR o ((g b).trans q) rfl,m,ws,T,p,ts,(g _).trans r,s,t,u,v,y,(g _).trans C,D,E⟩,x.st,λb M q=>(x.fr b M q).DO λo z=>⟨(g b).trans z.1,z.2⟩,x.j1,
  ⟨X.qE,λb o q w=>(g b).trans (X.j1 b o q w),λb o M q w z=>(X.f5 b o M q w z).DO λsl q1=>(g b).trans q1,λb o q=>(X.kG b o q).DO λG q1=>(g b).trans q1,X.k0⟩,x.r⟩
theorem lS{L:a9->a6->Prop}(hf:u.f5=ap ad)(x:gC ad A c P P' d U h s' ea B)
  (k:∀h5,(∀b,h5.ck b=s'.bh.ck b)->L (.bs ea) {s' with bh:=h5}):lx (dd G.D.bZ G.D.w) A u L (.bs ea) s':=by refine a4.aD λF n=>a4.tF x.held λo l H p f q r=>?_;haveI b:Base l P' U s'.bh B ea:=⟨x.st,p,f,q,x.fr⟩;obtain⟨s,ws,T,t,ts,a,⟨v,w⟩,e,i,y,C,j,m,D⟩:=id r;apply n;haveI E:jg c P' s'.bh ea T (wv ad):=⟨⟨s,ws,o,t,ts,a,v,e,w,i,C,j,m,D,b.j2 y j m⟩,(b.j2 f a e).1,(b.j2 f a e).2⟩;exact aa (cl (ul a e i (a4.ab (dx ((λz=>a4.dP z))) (a4.ab hf (pC E λh5 Z Z g=>k h5 (g rfl))))))
theorem zo{a:ec}{E:Flow->a6->Prop}{L:a9->a6->Prop}(hf:u.f5=ap ad)(x:gC ad A c P P' d U h s' ea B)
  (k:∀h5,(∀b,h5.ck b=s'.bh.ck b)->L (.bs ea) {s' with bh:=h5}):fj (dd G.D.bZ G.D.w) a u (λr s'=>match r with | .ok f=>E f s' | .B3 x=>lx (dd G.D.bZ G.D.w) A u L x s') (.bs ea) s':=
 a4.tF x.held λZ Z Z Z Z Z e=>aa (cl (Ie hf e (cl (Ix (lS hf x k)))))
abbrev nz{bZ:mS}{w:tq}{b':am xo}{a:FM}{E:Flow->a6->Prop}{L:a9->a6->Prop}:Prop:=∀(h:ch (dd bZ w) A (a8.KE b' u) E (λe b=>ch (dd bZ w) A (leaving u e) (λZ c=>ch (dd bZ w) A (handleBy e u [a]) E L c) L b) s),ch (dd bZ w) A (tryStmt false (a8.KE b' u) [a] (a8.KE [] u) [] u) E L s
theorem xY:∀{A u s bZ w b' a E L},@nz A u s bZ w b' a E L:=by
 refine λ{A u s bZ w b' a E L}=>a4.cK (q:=a4.nk @nz) ((?_:∀A u s bZ w b' a E L,@nz A u s bZ w b' a E L) _ _ _ _ _ _ _ _ _) (A,u,s,bZ,w,b',a,E,L);intro A u s bZ w b' a E L h;refine aa (iC (aw h (λf c b=>?_) λe c b=>?_))
 ·cases f<;>exact af b
 ·show ch _ _ (K2 e u>>=λZ=>setFlight e bk>>=λZ=>handleBy e u [a]) _ _ _;rw[←bind_assoc];exact aa b
abbrev q9{e:xo}:Prop:=∀(h:fD c9 G.D.ev C nf (.tr b c hs) e=true),∃b' t b_ a bv,e=.Try b' [.FM (ap t) bk b_ a] [] [] bv/\cD c9 G.D.ev C nf b b'=true/\oN c9 C t (.mm c)=true/\b_≠[]/\w7 c9 G.D.ev C hs b_=true
theorem Eg:∀{C nf c hs b e},@q9 C nf c hs b e:=by
 refine λ{C nf c hs b e}=>a4.cK (q:=a4.tH @q9) ((?_:∀C nf c hs b e,@q9 C nf c hs b e) _ _ _ _ _ _) (C,nf,c,hs,b,e);intro C nf c hs b e h;refine a4.aD λi f=>?_;refine a4.ar (aj (IZ.symm.trans h)) λk1 j g=>?_;clear h;subst j;refine a4.ar (cu (ai g)) λhh k a=>?_;obtain⟨t,n,b_,l⟩:=hh;refine a4.ar (cU (ao a)) λt' q1 q2=>?_;apply f;clear f;haveI m:=bS.Hx.mp (ao (ai a));clear i;subst q1 m;refine a4.ab k ?_;haveI d:=ao (ai (ai a));haveI o:b_≠[]:=λz=>by replace d:=z▸d;exact a4.dP d
 exact a4.Kz _ t' b_ l _ rfl (ao g) q2 o (ai (ai (ai a)))
theorem SS.MO(hb:SB lp Q vs d b fl aL U)(ne:∀c,fl≠ .ex c):SS lp Q vs d (.tr b c hs) fl aL U:=λC nf e h A u P s a=>by
 refine a4.aD λg f=>?_;obtain⟨b',t,b_,i,bv,rfl,c1,j,l,m⟩:=Eg h;apply f;exact ba.aU λE L k k'=>xY (hb C nf b' c1 A u P s a _ _ k λc e s' P' z=>kk z (ne c))
end
end Internal
end
section
namespace Internal
open Tactic
section
variable{A:ec}{P P' P0:Ph}{d U ay dw:H}{C:Cx}{u:Cg}{vs aL cb:am V}{nf Q:a5}{lp:ct}{ea T:e9}{c:a5}{s s':a6}{e:a9}{hs b:am S}{cd:ro}{fI:e9}
theorem Bp{t:fY}{bv:Dx}{f:Do}{E:Flow->a6->Prop}{L:a9->a6->Prop}{e:a5}{g:ro}{b:ct}(Y:cG G.D.K (G.D.mm c) fI cd)(h:cG G.D.K (G.D.mm e) fI g)(hb:cd.mro.b6 (.bs (G.D.mm e))=b)(hg:oN c9 C t (.mm e)=true)(a:o9 lp Q C A u vs P d s)(i:s.bh.ck ea=ap f)(j:f.mm=.bs (G.D.mm c))
  (k:E (if b then .brk else .next) s):ch (dd G.D.bZ G.D.w) A (runOwn (.handlers (.bs ea) [.FM (ap t) bk [] bv] u) u (ap (.bs ea))) E L s:=by refine vn nofun (mw ?_);refine aO (j5 hg) λid n l hg=>?_;subst l;refine aa (ax (aa (kR ⟨a.S,a.F,a.k,a.ac.marked⟩ hg λI m=>?_)));obtain rfl:I=.bs (G.D.mm e):=m;exact aa (ax (aa (cl (sj Y h hb (a.S.dW (G.ok a.S.lv)) i j (af k)))))
abbrev SS.Oe:Prop:=∀(Y:cG G.D.K (G.D.mm c) fI cd) (hb:SB lp Q vs d b (.ex c) aL U) (hh:SH Q aL U hs ay),SS lp Q vs d (.tr b c hs) (.ex c) aL ay
end
section
variable{A:ec}{P P':Ph}{d U:H}{h h' h1 B:d4}{sl:am h9}{u:Cg}{vs:am V}{nf Q y:a5}{lp:ct}{l:am Cg}{ea:e9}{c:a5}{s s':a6}{e:a9}
theorem tX{tg:d4}{ad:e9}{a:Do}{ws:rv a9}{b:a9}{M:z3}{E:y5->a6->Prop}{L:a9->a6->Prop}(d:A.un=ap (u::l))(e:s.bh.FunFrames tg (u::l))(hf:u.f5=ap ad)(c:s.bh.ck ea=ap a)(f:tg.StaysIn s.bh)(g:tg.ck ea=bk)(hd:a.hy=.j3 ws)(h1:ws[1]?=ap .bk)(h0:ws[0]?=ap b)
  (k:∀h',d4.NotedW tg (u::l) ea a.mm b (wv ad) s.bh h'->E () {s with bh:=h'}):a8.ch M A (K2 (.bs ea) u) E L s:=by delta K2;rw[hf];refine a8.a7 (ul c hd h1 ?_);rw[dx (by decide)];exact wpAny_entryW d e hf c f g hd (rv.hv.mp h1).1 h0 k
abbrev lL{E:Flow->a6->Prop}{L:a9->a6->Prop}:Prop:=∀(ac:iB y lp A P h Q) (tp:A.un=ap (u::l)) (F:lE nf sl u vs P' U s'.bh) (x:dj u.gX A c P P' d U h e s') (k:∀ea B a,e=.bs ea->gC u.gX A c P P' d U h a ea B->lE nf sl u vs P' U a.bh->L (.bs ea) a),fj (dd G.D.bZ G.D.w) A u (λr s'=>match r with | .ok f=>E f s' | .B3 x=>lx (dd G.D.bZ G.D.w) A u L x s') e s'
theorem vr:∀{A P P' d U h sl u vs nf Q y lp l c s' e E L},@lL A P P' d U h sl u vs nf Q y lp l c s' e E L:=by
 refine λ{A P P' d U h sl u vs nf Q y lp l c s' e E L}=>cK (q:=xP @lL) ((?_:∀A P P' d U h sl u vs nf Q y lp l c s' e E L,@lL A P P' d U h sl u vs nf Q y lp l c s' e E L) _ _ _ _ _ _ _ _ _ _ _ _ _ _ _ _ _ _ _) (A,P,P',d,U,h,sl,u,vs,nf,Q,y,lp,l,c,s',e,E,L);intro A P P' d U h sl u vs nf Q y lp l c s' e E L ac tp F x k;refine aD λn j=>?_;rcases x with⟨ea,B,rfl,z⟩ |⟨ea,oe,ws,p,rfl,z⟩ |⟨ea,B,rfl,z⟩<;>refine j ?_<;>clear j
 ·refine aD λn j=>tF z.zD λp G r s t v C=>?_;apply j;obtain rfl:=bS.ap.zv (tp.symm.trans r);refine aa (cl (wpAny_looks_onW tp F.f5 ⟨s,t,v,C⟩ λh' hh up=>cl (Ix ?_)));have f:gC u.gX A c P P' d U h {s' with bh:=h'} ea B:=gC.land tp hh up z.st z.fr z.ext z.j1 z.r;exact lS F.f5 f λh5 g=>k ea B _ rfl (gC.mx g f) ((F.up up).up (ny g))
 ·have X:=z.ext;refine lI (vX z.st.h (pB ac tp X z.st.h) [] λa m=>am.e0.mp m▸⟨z.k0,z.py,oe,ws,z.LL,z.hy⟩) λB b H D=>aa (cl (tX tp b.un F.f5 z.LL b.stays b.py z.hy z.v1 z.v0 λh' i=>cl (Ix ?_)));haveI k3:=i.2.2.1;replace k3:=z.mm▸k3;have f:gC u.gX A c P P' d U h {s' with bh:=h'} ea B:=gC.land tp (mN i.1 b.py i.2.1 k3) i.2.2.2 b.S b.qL X (λa o q w=>D a o (X.j1 a o q w) ((X.k0 a _ q).trans w) λm=>z.hM a o q w (am.e0.mp m)) z.st.r;exact lS F.f5 f λh5 g=>k ea B _ rfl (gC.mx g f) ((F.up i.2.2.2).up (ny g))
 ·exact zo F.f5 z λh5 g=>k ea B _ rfl (gC.mx g z) (F.up (ny g))
end
section
variable{lp:ct}{Q:a5}{C:Cx}{A:ec}{u:Cg}{vs aL p_ ws l3:am V}{P P':Ph}{d U ay:H}{s s':a6}{x:X}{v w:V}{nf j:a5}{is:am a5}{fl:Fl}{ok:H->Prop}{b:am S}
abbrev SS.EI{n:a5}:Prop:=∀(a:jw lp Q x b n vs d fl aL U),SS lp Q vs d (.wh x b) fl aL U
theorem SS.wh:∀{lp Q vs aL d U x fl b n},@SS.EI lp Q vs aL d U x fl b n:=by
 refine λ{lp Q vs aL d U x fl b n}=>cK (q:=kD @SS.EI) ((?_:∀lp Q vs aL d U x fl b n,@SS.EI lp Q vs aL d U x fl b n) _ _ _ _ _ _ _ _ _ _) (lp,Q,vs,aL,d,U,x,fl,b,n);intro lp Q vs aL d U x fl b n N;exact λC nf e h A u P s a=>by
  refine ar (aj (IY.symm.trans h)) λp G q=>?_;clear h;subst G;intro E L j k';refine aN a.top λl tl=>?_;rw[exec_While];refine aa (ax (jy (xT (λn s1=>∃cb P1 dw,fH lp Q C nf A u cb P1 dw s1/\At (ap u.gX) P P1 d dw s.bh s1.bh/\jw lp Q x b n cb dw fl aL U) (λn s1 O=>rL O λcb P1 dw a1 t h1=>?_) n (G_ vs P d a .hJ N))));clear O N;cases n with
  |zero=>
   refine Hb h1 λht G S=>?_;clear h1 n;subst G;subst S;refine ht C p.1 (ao q) A u P1 s1 a1.mJ _ _ λb' H J k i r=>?_;clear ht q;obtain rfl:b'=false:=r;exact j .next H J k (t.trans i.weak) (a1.F.kx i) rfl
  |Fy n=>
   refine KG h1 λm1 f T V ht hb R=>ht C p.1 (ao q) A u P1 s1 a1.mJ _ _ λb' H J k i r=>?_;clear ht h1;obtain rfl:b'=true:=r;haveI y:=t.trans i.weak;have D:=a1.on k i;refine hb C nf p.2.1 (ai q) A u J H D _ _ (λg K m M F o w=>?_) λc e K m z w o=>?_
   ·clear i k hb a1 t dw P1 s1 q p;rcases R with⟨rfl,h2⟩ |⟨hf,rfl,rfl,rfl⟩
    ·clear j;obtain rfl:g=.next:=w;exact⟨n,a5.wS n,T,m,V,D.next M F o,y.trans F,h2⟩
    ·clear D cb;cases f with
     |nx=>exact kk rfl hf
     |br=>clear hf;obtain rfl:g=.brk:=w;exact j .next K m M (y.trans F) o rfl
     |rt v=>clear hf;obtain⟨I,rfl,w⟩:=w;exact j _ K m M (y.trans F) o ⟨I,rfl,w⟩
     |ex c=>exact w.ef
   ·clear D i k hb a1 t j q;rcases R with⟨rfl,h2⟩ |⟨hf,rfl,rfl,rfl⟩
    ·exact bf Fl.b4 z rfl
    ·clear hf n;subst z;exact vr a.ac tl o (w.Lz y) λea B W Z X Y=>k' c _ W m rfl (.wl (.wl ⟨ea,B,rfl,X⟩)) Y
theorem nV{e:fY}{x:a9}(h:cO e=true):foldedSetIterable e u x=h8 x:=by cases e<;>first |rfl |exact dP h
theorem zA{tt:ct}{lj:V->am V->am V->Prop}{t' g:fY}{b':am xo}{bv:Dx}(o:A.z4=bk)(hi:IT lp Q vs d x tt l3 ok U)(p:aV lp Q ok lj b l3 vs U fl aL ay)(q:Binds lp Q C nf t' lj)(r:tt=true->t'.b4=25)
  (h1:cO g=true) (h2:aM c9 G.D.ev C x g=true) (h3:cD c9 G.D.ev C nf b b'=true) (a:fH lp Q C nf A u vs P d s):ba A nf C.sl u P d s fl aL ay (a8.exec (.For t' g b' [] bv) u):=by
 refine ba.aU λE L k k'=>aa (aw (hi C g h2 A u P s a.mJ o (λit j=>ch (dd G.D.bZ G.D.w) A (runOwn (.forLoop t' it b' [] u) u) E L j) L λit s' P' as be S' m t T v=>?_) (λx j h=>?_) λZ Z e=>e)
 ·exact jy (Cr q h3 T r m.weak t (a.on S' m) v p _ (λc e n cS y z i=>aN a.top λl tl=>vr a.ac tl i z λea B D K F H=>k' c _ D cS y (.wl (.wl ⟨ea,B,rfl,F⟩)) H) λf n cS I J i w=>k f n cS I J i w)
 ·exact ab (nV h1) (aa (af (aa (ax (aa (ak h))))))
theorem SS.oX(hi:IT true Q vs d x false l3 ok U)(c:aV true Q ok (λv vs cb=>cb=vs.fC j v) b l3 vs U fl aL ay):SS true Q vs d (.oX j x b) fl aL ay:=λC nf e h A u P s a=>by
 refine ar (aj (F7.symm.trans h)) λp f q=>?_;clear h;subst f;haveI q2:=ai (ai q);refine zA (a.ac.hd rfl) hi c (λv vs cb g A u P d s I a r=>?_) (λz=>dP z) (ao q2) (ao (ai (ai q2))) (ai (ai (ai q2))) a;clear q2 c hi;subst g;exact aO (sO (ao (ai q))) λid bv i k=>ab i (cw.aU (iI a.hS a.F (ra (ao q)) k r))
theorem fF.em:∀{is:am a5} {ws vs:am V},ws.ah=is.ah->fF lp Q vs d (is.hC .v) ws (bP is ws vs) d:=by
 intro a
 induction a with
 |iv=>
  intro ws vs h;obtain rfl:ws=[]:=am.length_eq_zero_iff.mp h;fail"k"
 |d2 i is b=>
  intro ws vs h;cases ws with
  |iv=>exact bf id h rfl
  |d2 w ws=>exact fF.d2 TG.wQ (b (a5.Fy.zv h))
theorem vQ:∀{is:am a5} {es:am fY},w6 C nf is es=true->pL c9 G.D.ev C nf (is.hC .v) es=true:=by
 intro a
 induction a with
 |iv=>
  intro es h;exact h
 |d2 i is b=>
  intro es h;cases es with
  |iv=>exact dP h
  |d2 e es=>
   refine aO (sO (ao (ai h))) λid bv c Z=>?_;subst c;exact ct.pn.ow ⟨ct.pn.ow ⟨ao h,ao (ai h)⟩,(b (ai (ai h)))⟩
theorem SS.fr{tt:ct}(hi:IT true Q vs d x tt l3 ok U)(i:aV true Q ok (λv vs cb=>∃ws,v=.KS ws/\ws.ah=is.ah/\cb=bP is ws vs) b l3 vs U fl aL ay):SS true Q vs d (.fr is x b) fl aL ay:=λC nf e h A u P s a=>by
 refine ar (aj (I7.symm.trans h)) λp m q=>?_;clear h;subst m;haveI q2:=ai q;refine ar (aj (ao q)) λk2 j n=>?_;refine zA (a.ac.hd rfl) hi i (λv vs cb o A u P d s I a r=>?_) (λZ=>by exact ab j rfl) (ao q2) (ao (ai q2)) (ai (ai q2)) a;clear q2 q i hi tt;obtain⟨ws,rfl,hn,rfl⟩:=o;refine aD λF l=>?_;obtain⟨b,us,rfl,f,tp,r⟩:=r;apply l;clear l;haveI g:=vQ n;haveI t:=(eX g).2;refine ab j ?_;refine λE L k=>kE (a.ac.hd rfl) tp (((eX g).1).symm.trans ((am.fz ..).trans (hn.symm.trans r.ah))) t λh' w=>?_;haveI c:=a.hS.h.hA w;exact fF.em hn C nf k2.1 g A u P {s with bh:=h'} us (a.on ⟨c.1,a.hS.r⟩ c.2) (r.kx c.2.q7) E L λy z B D=>k y z B (c.2.weak.trans D)
end
end Internal
end
section
namespace Internal
theorem ka(u:Cg):∀(em:am (h9×nc)) (cs:am (h9×e9)),(∀p∈em,p.2=.j2->(u.np.eh p.1).z_=true)->(∀p∈cs,u.np.eh p.1=ap p.2)->
  ∃cl:am (h9×e9),(forIn em cs λx r=>(match x with |(wQ,s9)=>if s9==.j2 then(do let a←cellOf u wQ;h8 (.yield ((wQ,a)::r)))else h8 (.yield r)):xE _)=h8 cl/\(∀p∈cl,u.np.eh p.1=ap p.2)/\(∀p∈cs,p∈cl)/\∀p∈em,p.2=.j2->∃c,(p.1,c)∈cl
 | [],cs,_,h2=>⟨cs,rfl,h2,λZ h=>h,(λZ z=>bC z)⟩
 |(n,k)::r,cs,h1,h2=>by
  rw[am.forIn_cons];by_cases q:k=.j2
  ·subst q;refine aD λm l=>aN (bS.v8.mp (h1 _ (.sk _) rfl)) λc j=>?_;have e:cellOf u n=h8 c:=by delta cellOf;exact ab j rfl
   refine EF (ka u r ((n,c)::cs) (λp d=>h1 p (.sy _ d)) (λp d=>(am.hD.mp d).ef (λz=>z▸j) (h2 p))) λcl a1 g f i=>?_;apply l;refine EC cl ((b5 (λt=>(t>>=λa=>h8 (Lo.yield ((n,a)::cs)))>>=_) e).trans a1) g (λp d=>f p (.sy _ d)) (λp d hf=>?_);rcases am.hD.mp d with rfl |d
   ·exact⟨c,f _ (.sk _)⟩
   ·exact i p d hf
  ·refine EF (ka u r cs (λp d=>h1 p (.sy _ d)) h2) λcl a1 g f i=>EC cl ((b5 (λb:ct=>(if b=true then(cellOf u n>>=λa=>h8 (Lo.yield ((n,a)::cs)))else h8 (Lo.yield cs))>>=_) (ki.ow q)).trans a1) g f (λp d hf=>?_);rcases am.hD.mp d with rfl |d
   ·exact kk hf q
   ·exact i p d hf
theorem ml{α:Type}:∀{l:am (h9×α)} {n:h9} {c:α},(n,c)∈l->∃c,l.eh n=ap c
 | [],_,_,h=>bC h
 |(m,Q)::r,n,c,h=>by
  rw[am.lookup_cons];by_cases q:(n==m)=true
  ·exact ab q (⟨Q,rfl⟩)
  ·refine ab (ct.not_eq_true _ |>.mp q) ?_;rcases am.hD.mp h with e |e
   ·cases e;exact kk (Bb _) q
   ·exact ml e
theorem o5{cr:Ir}{u:Cg}(h:∀p∈cr.em,p.2=.j2->(u.np.eh p.1).z_=true):
  ∃cl,closureFor cr u=h8 cl/\(∀n c,cl.eh n=ap c->u.np.eh n=ap c)/\∀n,(n,nc.j2)∈cr.em->∃c,cl.eh n=ap c:=by refine EF (ka u cr.em [] h (λZ z=>bC z)) λcl a1 a Z b=>mM cl ?_ (λn c e=>a _ (JU e)) (λn hn=>(b _ hn rfl).ef λc=>ml);delta closureFor;dsimp only;rw[a1];rfl
abbrev j4{sl:am h9}{oa:a5}{x n:h9}{i:a5}:Prop:=∀(h:(yW sl oa x)[i]?=ap n),(i=oa/\n=x)\/(i≠oa/\(n= "" \/(n≠x/\n≠(".0" :h9)/\sl[i]?=ap n)))
theorem so:∀{sl oa x n i},@j4 sl oa x n i:=by
 refine λ{sl oa x n i}=>cK (q:=xO @j4) ((?_:∀sl oa x n i,@j4 sl oa x n i) _ _ _ _ _) (sl,oa,x,n,i);intro sl oa x n i h;replace h:=(am.getElem?_set)▸h;by_cases q:oa=i
 ·replace h:=(et q)▸h
  split at h
  ·exact .u0 ⟨q.symm,(bS.ap.zv h).symm⟩
  ·exact dE h
 ·replace h:=(am.getElem?_map)▸(dx q)▸h;refine .wl ⟨λz=>q z.symm,ar (bS.map_eq_some_iff.mp h) λy e z=>?_⟩;clear h q oa;split at z
  ·exact .u0 z.symm
  ·rename_i w
   subst z;exact .wl (ix (λz=>w (.u0 z)) (λz=>w (.wl z)) e)
structure u9(C:Cx)(cr:Ir)(x:h9):Prop where
 s9:cr.s9=.xL
 ne:x≠ ""
 at_:cr.em.eh x=ap .local
 O8:cr.em.eh (".0" :h9)=ap .local
 l3:∀p,p∈cr.em->(p.2=.local/\(p.1=x\/p.1=(".0" :h9)))\/(p.2=.j2/\p.1≠ "" /\(C.kd p.1=ap .E2\/C.kd p.1=ap .j2))\/p.2=.sB
theorem uG{C:Cx}{cr:Ir}{x:h9}(h:qZ C cr x=true):u9 C cr x:=by
 haveI h2:=ai h;haveI h3:=ai h2;refine⟨cx (ao h),λz=>?_,cx (ao h3),cx (ao (ai h3)),λp m=>?_⟩
 ·have:=yN (ao h2);replace this:=z▸this;exact mj this
 ·haveI q:=am.nw.mp (ai (ai h3)) p m;rcases ct.x2.mp q with q |q
  ·exact .u0 ⟨cx (ao q),(ct.x2.mp (ai q)).DO cx cx⟩
  ·rcases ct.x2.mp q with q |q
   ·exact .wl (.u0 (ix (cx (ao q)) (ki.mp (yN (ao (ai q)))) ((ct.x2.mp (ai (ai q))).DO cx cx)))
   ·exact .wl (.wl (cx q))
section
variable{lp:ct}{A:ec}{P P':Ph}{d U:H}{s:a6}{C:Cx}{cr:Ir}{oa:a5}{x:h9}{u bq:Cg}{vs:am V}{v:V}{I:a9}{h h':d4}{m:h9->bS a9}{ad:e9}{sl:am h9}
theorem jB(a:u.jp.s9=.xL)(k:rC C u):(relabel cr u).em=pK C.kd cr:=by refine am.map_congr_left λp Z=>?_;obtain⟨n,b⟩:=p;dsimp only;refine ab a (ab (k.kd n) ?_);cases b<;>rfl
abbrev Fm.uF:Prop:=∀(F:Fm C.sl u vs P d h) (k:rC C u) (o:u9 C cr x) (hs:bq.jp=relabel cr u) (hg:bq.y0=u.y0) (hb:bq.r6=u.r6) (a:P.k0 bq.gX=.f5 bq.gX) (ns:h.Ns bq.gX m) (up:∀n c,bq.np.eh n=ap c->u.np.eh n=ap c) (uE:∀n,(n,nc.j2)∈cr.em->∃c,bq.np.eh n=ap c) (b:m x=ap I) (r:aF P d h v I),Fm (C.comp cr oa x).sl bq (vs.fC oa v) P d h
theorem Fm.comp:∀{P d C cr oa x u bq vs v I h m},@Fm.uF P d C cr oa x u bq vs v I h m:=by
 refine λ{P d C cr oa x u bq vs v I h m}=>cK (q:=kC @Fm.uF) ((?_:∀P d C cr oa x u bq vs v I h m,@Fm.uF P d C cr oa x u bq vs v I h m) _ _ _ _ _ _ _ _ _ _ _ _ _) (P,d,C,cr,oa,x,u,bq,vs,v,I,h,m);intro P d C cr oa x u bq vs v I h m F k o hs hg hb B ns up uE D r;have l:∀n b,bq.n1 n=ap b->(b=.local/\(n=x\/n=(".0" :h9)))\/(b≠ .local/\(n,nc.j2)∈cr.em/\n≠ "" /\(C.kd n=ap .E2\/C.kd n=ap .j2))\/b=.sB:=λn b e=>by
  unfold Cg.n1 at e;replace e:=(jB F.s9 k)▸hs▸e;refine aD λN s=>ar (am.JQ.mp (JU e)) λp m1 f=>?_;obtain⟨O,Q⟩:=p;apply s;clear s;haveI q:=o.l3 _ m1;dsimp only at f q
  split at f
  ·rename_i z
   cases f;rw[cx (ao z)]at q m1;rcases q with z |z |z
   ·cases z.1
   ·exact .wl (.u0 (ix (iD nc.b4) m1 z.2))
   ·exact bf nc.b4 z rfl
  ·cases f;rcases q with z |z |z
   ·exact .u0 z
   ·exact .wl (.u0 (ix (ab z.1 (λz=>bf nc.b4 z rfl)) (z.1▸m1) z.2))
   ·exact .wl (.wl z)
 have j2:∀n,bq.n1 n=ap .E2\/bq.n1 n=ap .j2->(n,nc.j2)∈cr.em/\n≠ "" /\(C.kd n=ap .E2\/C.kd n=ap .j2):=λn e=>by
  rcases e with e |e<;>rcases l n _ e with z |z |z<;>first |exact z.2 |exact(bf nc.b4 z.1 rfl) |exact bf nc.b4 z rfl
 have E:bq.n1 x=ap .local:=by
  unfold Cg.n1;exact ab hs (Kd o.at_)
 refine⟨B,⟨m,ns,λi n w g j t a=>?_⟩,λn c e=>F.np n c (up n c e),λi n w g j t a=>?_,hs▸o.s9,hg.trans F.glob,hb.trans F.Ly,λn e=>?_⟩
 ·have y:n=x\/n=(".0" :h9):=by
   rcases l n _ a with q |q |q
   ·exact q.2
   ·exact kk rfl q.1
   ·cases q
  rcases so g with⟨rfl,rfl⟩ |⟨_,q |⟨q,q2,_⟩⟩
  ·rcases mT j with⟨_,rfl⟩ |⟨q,_⟩
   ·exact aR I D r
   ·exact kk rfl q
  ·subst q;exact y.ef (λz=>kk z.symm o.ne) λz=>nomatch z
  ·exact(y.ef q q2).ef
 ·haveI hn:=j2 n a;have G:n≠x:=λz=>by
   replace a:=E▸z▸a;rcases a with a |a<;>cases a
  rcases so g with⟨_,q⟩ |⟨ni,q |⟨_,_,q⟩⟩
  ·exact kk q G
  ·exact kk q hn.2.1
  ·rcases mT j with⟨z,_⟩ |⟨_,z⟩
   ·exact kk z ni
   ·refine dQ (F.E2 i n w q z t (by rw[k.kd];exact hn.2.2)) λc H a1 J K=>aN (uE n hn.1) λL A=>?_;obtain rfl:=bS.ap.zv (a1.symm.trans (up n L A));exact eN _ H A J K
 ·exact aN (uE n (j2 n e).1) λc M=>ab M rfl
end
theorem nr{α:Type}{M:z3}{A:ec}{t t':xE α}{E:α->a6->Prop}{L:a9->a6->Prop}{s:a6}(e:t=t')(h:ch M A t' E L s):ch M A t E L s:=e▸h
abbrev l8{bZ:mS}{w:tq}{A:ec}{R:r3->a6->Prop}{s:a6}{lm a io:fY}{kt:am fY}{cr:Ir}{bv:Dx}{it Iq:a9}{u:Cg}(be:a5->a6->Prop):Prop:=∀(ht:∀v,GM a it v=h8 ()) (g:∀n s,be n s->ch (dd bZ w) A (pyNext it) (λr b=>match r with
   |bk=>R (.ok .next) b
   |ap v=>ch (dd bZ w) A (Cj a u v) (λZ d=>
     ch (dd bZ w) A (allTrue .And kt u) (λok c=>
      if ok=true then ch (dd bZ w) A (a8.pa lm u) (λx e=>
       ch (dd bZ w) A (a8.ng (.eu "list.append") [Iq,x]) (λZ f=>∃m,m<n/\be m f) (fj (dd bZ w) A u R) e) (fj (dd bZ w) A u R) c
      else∃m,m<n/\be m c) (fj (dd bZ w) A u R) d) (fj (dd bZ w) A u R) b) (fj (dd bZ w) A u R) s) (n:a5) (h:be n s),az (dd bZ w) A (.compLoop (.H9 lm [⟨a,io,kt,0⟩] cr bv) 0 it Iq u) R s
theorem CL:∀{bZ w A R s lm a io kt cr bv it Iq u} (be),@l8 bZ w A R s lm a io kt cr bv it Iq u be:=by
 refine λ{bZ w A R s lm a io kt cr bv it Iq u} (be)=>cK (q:=rM @l8) ((?_:∀bZ w A R s lm a io kt cr bv it Iq u be,@l8 bZ w A R s lm a io kt cr bv it Iq u be) _ _ _ _ _ _ _ _ _ _ _ _ _ _ _) (bZ,w,A,R,s,lm,a,io,kt,cr,bv,it,Iq,u,be);intro bZ w A R s lm a io kt cr bv it Iq u be ht i n h;haveI j:∀(l:am fY) (b:ct),(forIn l b λc r=>if r=true then do let ok←isTrue c u (a8.pa c u);h8 (Lo.yield ok)else h8 (Lo.yield r):xE ct)=if b then allTrue .And l u else h8 false:=λl=>by
  induction l with
  |iv=>intro b;cases b<;>rfl
  |d2 c l d=>
   intro b;rw[am.forIn_cons];cases b with
   |false=>exact d false
   |true=>
    rw[et rfl,bind_assoc];refine b5 (isTrue c u (a8.pa c u)>>=·) (funext λt=>?_);rw[pure_bind];apply(d t).trans;cases t<;>rfl
 refine jz rfl rfl be (λn s k=>?_) n h;show ch _ A ((compTurn (.H9 lm [⟨a,io,kt,0⟩] cr bv) 0 it Iq u).onRaise (λx=>do K2 x u;Kh x)) _ _ s;apply aX;rw[compTurn_list];refine aa (ax (aa (aw (i n s k) (λr y f=>?_) λZ Z e=>e)));cases r with
 |bk=>exact af f
 |ap v=>
  refine aa (aG (ht v) (aa (aw f (λZ z m=>aa (nr (j kt true) (aw m (λok B g=>?_) λZ Z e=>e))) λZ Z e=>e)));cases ok with
  |false=>exact af ⟨rfl,g⟩
  |true=>exact aa (aa (aw g (λx C o=>aa (aw o (λZ D p=>af (af ⟨rfl,p⟩)) λZ Z e=>e)) λZ Z e=>e))
section
variable(Q:a5)(ok:H->Prop)(oa:a5)(el:X)(cs:am X)(vs:am V)
def bH:am V->H->am V->H->Prop
 | [],d,EQ,U=>ok d/\EQ=[]/\U=d
 |v::r,d,EQ,U=>ok d/\∃b dw,EA true Q true (vs.fC oa v) d cs (.ok b dw)/\((b=false/\bH r dw EQ U)\/(b=true/\∃w gK a,EX true Q (vs.fC oa v) dw el (.ok w gK)/\bH r gK a U/\EQ=w::a))
end
structure A8(C:Cx)(Q:a5)(A:ec)(u:Cg)(vs:am V)(ad Dl:e9)(h0:d4)(P0:Ph)(gD:H)(EQ:am V)(P:Ph)(d:H)(s:a6):Prop where
 a:o9 true Q C A u vs P d s
 ext:At bk P0 P gD d h0 s.bh
 oL:P.k0 ad=.f5 ad
 ns:∃m,s.bh.Ns ad m
 oD:P.k0 Dl=.j2
 Iq:∃us n,s.bh.ck Dl=ap (b7 us n)/\aA P d s.bh EQ us
section
variable{C:Cx}{Q:a5}{A:ec}{u bq:Cg}{vs EQ l3:am V}{ad Dl:e9}{h0 h h':d4}{P0 P P':Ph}{gD d U:H}{s s':a6}{as:am e9}{cr:Ir}{oa:a5}{x:h9}{px bv:Dx}{io lm:fY}{kt:am fY}{el:X}{cs:am X}{ok:H->Prop}{it:e9}{be:a5->Ph->H->d4->Prop}
theorem A8.tn{tk:a5}(J:A8 C Q A u vs ad Dl h0 P0 gD EQ P d s)(x:Tn P as s.bh h')(b:∀a,a∈as->h0.ck a=bk)(c:Dl∉as):A8 C Q A u vs ad Dl h0 P0 gD EQ P d {s with bh:=h',hO:=tk}:=by refine aO J.Iq λus n f g=>aN J.ns λm ns=>?_;exact⟨J.a.tn x,J.ext.tn b x,J.oL,⟨m,Ns.vT ns λo e=>⟨o.vT,x.hT J.oL (iD GX.b4) e⟩⟩,J.oD,us,n,x.only _ _ c f,g.hC λr=>r.kx x.q7⟩
theorem A8.on(J:A8 C Q A u vs ad Dl h0 P0 gD EQ P d s)(S:St G.D P' U s')(X:At bk P P' d U s.bh s'.bh):A8 C Q A u vs ad Dl h0 P0 gD EQ P' U s':=by refine aO J.Iq λus n a b=>aN J.ns λm ns=>?_;exact⟨J.a.on S X,J.ext.trans X,(by exact ED ns λo Z Z e Z=>(X.k0 _ o e).trans J.oL),⟨m,Ns.vT ns λo e=>X.f5 _ o _ e J.oL (λz=>oP z)⟩,(X.k0 _ _ a).trans J.oD,us,n,X.j1 _ _ a J.oD,b.kx X.q7⟩
theorem Fm.other{sl:am h9}(F:Fm sl u vs P d h)(hs:d4.nT ad h h')(ne:u.gX≠ad)(e:∀v,¬h.wP ad v)(g:o8 P P d d h h'):Fm sl u vs P d h':=by
 refine ar F.ns λm ns f=>?_;have cl:∀c v,h.wP c v->h'.wP c v:=λc v q=>q.sameBut hs λz=>e v (z▸q);refine⟨F.k0,⟨m,ns.sameBut hs ne,λi n v a b c Q=>(f i n v a b c Q).DO λI z=>⟨z.1,z.2.kx g⟩⟩,λn c a=>?_,λi n v a b c Q=>?_,F.s9,F.glob,F.Ly,F.uE⟩
 ·obtain⟨o,v,q⟩:=F.np n c a;exact⟨o,v,cl c v q⟩
 ·exact dQ (F.E2 i n v a b c Q) λj I k l p=>eN j I k (cl _ _ l) (p.kx g)
theorem Ns.yP{m:h9->bS a9}(ns:h.Ns ad m)(v:bS a9):¬h.wP ad v:=λ⟨o,e,Q⟩=>by
 refine rL ns λc Z Z a b Z=>?_;obtain rfl:=bS.ap.zv (e.symm.trans a);exact bf Data.b4 (Q.symm.trans b) rfl
structure JK(C:Cx)(cr:Ir)(oa:a5)(x:h9)(u bq:Cg):Prop where
 o:u9 C cr x
 hs:bq.jp=relabel cr u
 kd:rC (C.comp cr oa x) bq
 hg:bq.y0=u.y0
 hb:bq.r6=u.r6
 up:∀n c,bq.np.eh n=ap c->u.np.eh n=ap c
 uE:∀n,(n,nc.j2)∈cr.em->∃c,bq.np.eh n=ap c
 nL:u.gX≠bq.gX
inductive MI(l3 EQ:am V)(J:am V->Ph->H->a6->Prop)(I:a5->Ph->H->d4->Prop)(W:am V->H->am V->Prop)(n:a5)(s:a6):Prop
 |mk (i:a5) (su s8:am V) (P:Ph) (mh:H) (hn:n=(l3.zt i).ah) (hp:su.ah<=i) (ho:su++s8=EQ) (w:W (l3.zt i) mh s8) (j:J su P mh s) (h:I i P mh s.bh)
abbrev i7:Prop:=∀(T:xu A false l3 ok it as be) (c:l3.ah<=1000000) (K:JK C cr oa x u bq) (e:aM c9 G.D.ev (C.comp cr oa x) el lm=true) (f:fK c9 G.D.ev (C.comp cr oa x) cs kt=true) (low:∀b M,P0.k0 b=.f5 M->M<=b) (g:∀b o,h0.ck b=ap o->b<bq.gX) (h:h0.ck Dl=bk) (i:G.D.hE.ck Dl=bk) (j:∀a,a∈as->h0.ck a=bk) (k:Dl∉as) (w:bH Q ok oa el cs vs l3 d EQ U) (J:A8 C Q A u vs bq.gX Dl h0 P0 gD [] P d s) (l:be 0 P d s.bh) (R:r3->a6->Prop) (m:∀s' P',A8 C Q A u vs bq.gX Dl h0 P0 gD EQ P' U s'->R (.ok .next) s'),az (dd G.D.bZ G.D.w) A (.compLoop (.H9 lm [⟨.r0 x px,io,kt,0⟩] cr bv) 0 (.bs it) (.bs Dl) bq) R s
theorem w0:∀{C Q A u bq vs EQ l3 Dl h0 P0 P gD d U s as cr oa x px bv io lm kt el cs ok it be},@i7 C Q A u bq vs EQ l3 Dl h0 P0 P gD d U s as cr oa x px bv io lm kt el cs ok it be:=by
 refine λ{C Q A u bq vs EQ l3 Dl h0 P0 P gD d U s as cr oa x px bv io lm kt el cs ok it be}=>cK (q:=Hc @i7) ((?_:∀C Q A u bq vs EQ l3 Dl h0 P0 P gD d U s as cr oa x px bv io lm kt el cs ok it be,@i7 C Q A u bq vs EQ l3 Dl h0 P0 P gD d U s as cr oa x px bv io lm kt el cs ok it be) _ _ _ _ _ _ _ _ _ _ _ _ _ _ _ _ _ _ _ _ _ _ _ _ _ _ _ _ _ _) (C,Q,A,u,bq,vs,EQ,l3,Dl,h0,P0,P,gD,d,U,s,as,cr,oa,x,px,bv,io,lm,kt,el,cs,ok,it,be);intro C Q A u bq vs EQ l3 Dl h0 P0 P gD d U s as cr oa x px bv io lm kt el cs ok it be T FC K he hc low hL nD nE n0 N w J O R hR;refine CL (MI l3 EQ (A8 C Q A u vs bq.gX Dl h0 P0 gD) be λl m r=>bH Q ok oa el cs vs l m r U) (λ_=>rfl) (λn s1 O=>aD λj c=>?_) l3.ah ⟨0,[],EQ,P,d,rfl,a5.i3 _,rfl,w,J,O⟩;obtain⟨i,su,s8,P1,dw,hn,S,Ft,h1,t,V⟩:=O;apply c;clear c;clear O J w;cases p:l3.zt i with
 |iv=>
  rw[p]at h1;refine aD λj c=>?_;clear S hn nE nD hL low hc he K FC;obtain⟨st,rfl,rfl⟩:=h1;apply c;clear c;refine T.done i P1 _ s1 (am.Ea.ow (am.drop_eq_nil_iff.mp p)) V t.a.S st _ _ λh1 tk x=>hR _ P1 ?_;rw[←Ft,am.x6];exact t.tn x n0 N
 |d2 xv xr=>
  rw[p]at h1;refine aD λj c=>?_;obtain⟨st,b,m2,e2,q⟩:=h1;apply c;clear c;haveI W:l3[i]?=ap xv:=by refine ab ((am.head?_drop).symm) (ab p ?_);rfl
  haveI xC:=(am.hv.mp W).1;have X:l3.zt (i+1)=xr:=by refine ab am.tail_drop.symm (ab p ?_);rfl
  have Cf:xr.ah<n:=hn▸p▸a5.wS _;refine T.next i P1 dw s1 xv W V t.a.S st _ _ λI h2 tk x1 r2 lt=>?_;have conv:∀{E:y5->a6->Prop} {L:a9->a6->Prop},(∀h3,Tn P1 as h2 h3->be (i+1) P1 dw h3->ch (dd G.D.bZ G.D.w) A (Cj (.r0 x px) bq I) E L {s1 with bh:=h3,hO:=tk})->ch (dd G.D.bZ G.D.w) A (Cj (.r0 x px) bq I) E L {s1 with bh:=h2,hO:=tk}:=λ{E L} h=>
   nr (pure_bind () (λ_=>Cj (.r0 x px) bq I)).symm (aa (lt (.r0 x px) (λ_ s3=>ch (dd G.D.bZ G.D.w) A (Cj (.r0 x px) bq I) E L s3) L (λz=>dP z) h))
  refine conv λh3 Y I3=>?_
  have f:=(t.tn (tk:=tk) x1 n0 N).tn (tk:=tk) Y n0 N;refine aD λj c=>?_;refine aN f.ns λm Z=>?_;apply c;clear c;have js:bq.n1 x=ap .local:=by
   unfold Cg.n1;exact ab K.hs (Kd K.o.at_)
  refine cl (wpAny_assign_Name (wpAny_storeName_local js Z (λh4 F Kf=>?_) (by exact ab (show bq.jp.s9=.xL from(b5 Ir.s9 K.hs).trans K.o.s9) rfl)));refine aD λj c=>?_;obtain⟨S4,g⟩:=f.a.S.h.fq f.oL Kf (Ns.rE F);refine aO f.Iq λus nn H M=>?_;apply c;clear c;have B:o9 true Q C A u vs P1 dw {s1 with bh:=h4,hO:=tk+1}:=⟨⟨S4,f.a.S.r⟩,f.a.F.other Kf K.nL (Ns.yP Z) g.q7,f.a.k,f.a.ac.kx g λad o e _ _=>by clear M H nn us g S4 j Kf js Z f I3 Y conv lt r2 x1 st t V W P1;obtain rfl:=bS.ap.zv e;exact Ns.rE F⟩;have J4:A8 C Q A u vs bq.gX Dl h0 P0 gD su P1 dw {s1 with bh:=h4,hO:=tk+1}:=⟨B,At.hW low hL f.ext g,f.oL,⟨_,F⟩,f.oD,us,nn,g.j1 _ _ H f.oD,M.kx g.q7⟩;haveI I4:=T.j1 _ _ _ _ _ _ _ _ I3 g;have NP:o9 true Q (C.comp cr oa x) A bq (vs.fC oa xv) P1 dw {s1 with bh:=h4,hO:=tk+1}:=⟨B.S,Fm.comp B.F B.k K.o K.hs K.hg K.hb J4.oL F K.up K.uE (et rfl) ((r2.kx Y.q7).kx g.q7),K.kd,B.ac⟩;refine e2 _ _ hc A bq P1 _ NP _ _ λb' s5 P5 S5 Mr rb=>?_;clear F B g S4 Kf js Z f I3 Y conv lt r2 x1 I st t V W e2 p hn;obtain rfl:b'=b:=rb
  have J5:=J4.on S5 Mr;have I5:=T.j1 _ _ _ _ _ _ _ _ I4 Mr;refine aD λj c=>?_;clear I4 J4;rcases q with⟨rfl,h2⟩ |⟨rfl,v,m3,o2,e3,h2,e4⟩<;>refine c ?_<;>clear c
  ·rw[dx (λz=>dP z)];exact⟨_,Cf,i+1,su,s8,P5,m2,b5 _ X.symm,a5.zu S,Ft,X.symm▸h2,J5,I5⟩
  ·rw[et rfl];refine e3 _ _ he A bq P5 s5 (NP.on S5 Mr) _ _ λy s6 P6 S6 NS ry=>?_;have k:=J5.on S6 NS;haveI I6:=T.j1 _ _ _ _ _ _ _ _ I5 NS;refine aD λj c=>aO k.Iq λus nn H M=>?_;apply c;clear c;refine lB H (lG M.ah (a5.bb S (a5.bb (a5.l6 xC) FC))) λh7 n7 g7 OK=>?_;have D:Tn P6 [Dl] s6.bh h7:=Tn.one H rfl rfl rfl k.oD nE λb o n e=>(OK.2 b n).trans e;refine aD λj c=>aN k.ns λm Oy=>?_;apply c;clear c;refine⟨_,Cf,i+1,su++[v],o2,P6,m3,b5 _ X.symm,am.ep▸a5.ic S,by rw[←Ft,e4,am.sN];rfl,X.symm▸h2,⟨k.a.tn D,k.ext.tn (λa m=>am.e0.mp m▸nD) D,k.oL,⟨m,Ns.vT Oy λo e=>⟨o.vT,D.hT k.oL (iD GX.b4) e⟩⟩,k.oD,us++[y],n7,g7,aA.append (m:=[v]) (ws:=[y]) ⟨y,[],rfl,ry.kx D.q7,rfl⟩ (M.hC λr=>r.kx D.q7)⟩,T.only _ _ _ _ _ _ I6 D N⟩
end
def oh(M:z3)(A:ec)(L:a9->a6->Prop)(c:bS (a9->xE y5))(E:a9->a6->Prop)(Iq:a9)(ad:e9)(s':a6):Prop:=
 match c with
 |bk=>∃m,s'.bh.Ns ad m/\∀h' a,h'.Ns ad a->d4.nT ad s'.bh h'->E Iq {s' with bh:=h'}
 |ap I=>ch M A (I Iq) (λZ b=>∃m,b.bh.Ns ad m/\∀h' a,h'.Ns ad a->d4.nT ad b.bh h'->E .bk {b with bh:=h'}) L s'
theorem yd{bZ:mS}{w:tq}{A:ec}{R:r3->a6->Prop}{s:a6}{lm d io:fY}{kt:am fY}{cr:Ir}{bv:Dx}{it Iq:a9}{u:Cg}
  (h0:az (dd bZ w) A (.compLoop (.H9 lm [⟨d,io,kt,0⟩] cr bv) 0 it Iq u) R s)
  (h:∀L,ch (dd bZ w) A (pyIter it) (λf s'=>az (dd bZ w) A (.compLoop (.H9 lm [⟨d,io,kt,0⟩] cr bv) 0 f Iq u) R s') L s):
  az (dd bZ w) A (.compStart (.H9 lm [⟨d,io,kt,0⟩] cr bv) 0 it Iq u) R s:=by
 apply aI rfl;apply aX;refine aa (cl (a8.wpAny_askSetting ?_));haveI g:∀{α:Type} {c:Prop} [Decidable c] {a b:xE α} {M:z3} {A:ec} {E:α->a6->Prop} {L:a9->a6->Prop},ch M A a E L s->ch M A b E L s->ch M A (if c then a else b) E L s:=λh1 h2=>by split<;>assumption
 apply g
 ·exact af (And.intro rfl h0)
 ·refine aa (cI ?_);exact aa (ax (aa (aw (h _) (λf s' h'=>af (And.intro rfl h')) λZ Z e=>e)))
abbrev dk{M:z3}{A:ec}{L:a9->a6->Prop}{s:a6}{u:Cg}{e:fY}{cr:Ir}{bv:Dx}{a:xE a9}{g:Comprehension}{c:am Comprehension}{cs:am (h9×e9)}{b:bS (a9->xE y5)}{E:a9->a6->Prop}:Prop:=∀(l:clausesOf e=g::c) (hs:∀x,foldedSetIterable g.iter u x=h8 x) (m:closureFor cr u=h8 cs) (n:cr.s9=.xL) (o:∀x∈cr.em,x.2=.local->cr.em.eh x.1=ap .local) (h:ch M A a (λx d=>ch M A (pyIter x) (λit i=>ch M A (newList []) (λIq j=>
   ch M A (newFunctionEnv cr u.y0 cs [] u.qual bk .bk (ap u)) (λbq k=>
    az M A (.compStart e 0 it Iq {bq with jp:=relabel cr u}) (λr s'=>∃f,r=.ok f/\oh M A L b E Iq bq.gX s') k) L j) L i) L d) L s),ch M A (comprehension e cr u bv (newList []) false a b) E L s
theorem lZ:∀{M A L s u e cr bv b g a cs d E},@dk M A L s u e cr bv b g a cs d E:=by
 refine λ{M A L s u e cr bv b g a cs d E}=>cK (q:=vd @dk) ((?_:∀M A L s u e cr bv b g a cs d E,@dk M A L s u e cr bv b g a cs d E) _ _ _ _ _ _ _ _ _ _ _ _ _ _) (M,A,L,s,u,e,cr,bv,b,g,a,cs,d,E);intro M A L s u e cr bv b g a cs d E Kl hs pz vL qF h;unfold comprehension;refine ab pz (ab Kl (aa (aw h (λx B n=>aa (ax (aa (aG (hs x) ?_)))) λZ Z e=>e)));refine aa (ak (aw n (λit o t=>?_) λZ Z e=>e));haveI C:∀{α:Type} {c:Prop} [Decidable c] {p:Dx} {k:PUnit->xE α} {E:α->a6->Prop},ch M A (k ()) E L o->ch M A (if c then(kK p>>=k)else k ()) E L o:=λh=>by
  clear t it n B x qF vL pz hs Kl a g bv;split
  ·exact aa (ax h)
  ·exact h
 refine C (aa (aw t (λIq H D=>aa (af (aa (aw D (λbq J F=>?_) λZ Z e=>e)))) λZ Z e=>e));dsimp only
 let l:=cr.em.filter λx=>(x.2==.local ||x.2==.E2)&&x.1 !=(".0" :h9)
 haveI G:∀x,x∈l->x.2=.local->Cg.n1 {bq with jp:=relabel cr u} x.1=ap .local:=λx j K=>Kd (qF x (am.mem_filter.mp j).1 K);have v1:∀x∈l.E5,x.2=.local->Cg.n1 {bq with jp:=relabel cr u} x.1=ap .local:=λx j=>G x (am.mem_reverse.mp j);haveI v2:∀x∈l.E5.zt 1++l.E5.m0 1,x.2=.local->Cg.n1 {bq with jp:=relabel cr u} x.1=ap .local:=λx j=>v1 x ((am.uf.mp j).ef am.mem_of_mem_drop am.mem_of_mem_take);refine ak (aa (iC (ak (jP (cz F λr s' i=>?_) (by decide)))));clear G F J D H h C t o it n B qF pz hs Kl cs a g b bv s;obtain⟨f,rfl,i⟩:=i;clear x;cases d with
 |bk=>
  refine ar i λm hn i=>?_;exact aa (ak (cl (wpAny_comp_letGo vL _ s' m v1 hn λh' v w y=>af (i h' v w y))))
 |ap I=>
  refine aa (cI (aa (ak (aw i (λZ N z=>ar z λm hn z=>?_) λZ Z e=>e))));exact aa (cl (wpAny_comp_letGo vL _ N m v2 hn λh' v w y=>af (z h' v w y)))
section
variable{C:Cx}{Q:a5}{A:ec}{u:Cg}{vs EQ l3:am V}{P P':Ph}{d dw gK:H}{s s':a6}{cr:Ir}{oa ce nf i:a5}{x:h9}{px bv p0:Dx}{io lm:fY}{kt:am fY}{el vG:X}{cs:am X}{ok:H->Prop}
theorem iz.pd{h h':d4}{ad:e9}(S:iz G.D Fw P d h)(c:h.ck ad=bk)(hs:∀b o,h.ck b=ap o->h'.ck b=ap o)(hn:∃o,h'.ck ad=ap o/\∀vs,o.hy≠ .j3 vs):
  iz G.D Fw (P.o4 ad []) d h'/\At bk P (P.o4 ad []) d d h h':=by
 have a:∀{b w},(P.o4 ad []).k0 b=w->(w=.f5 ad/\b=ad)\/P.k0 b=w:=λ{b w} e=>by
  clear hn hs c S h' h;by_cases q:b=ad\/b∈([]:am (h9×e9)).hC (·.2)
  ·exact .u0 ⟨e.symm.trans (et q),q.ef id λz=>bC z⟩
  ·exact .wl ((dx q).symm.trans e)
 have k0:∀b o,h.ck b=ap o->(P.o4 ad []).k0 b=P.k0 b:=λb o e=>dx λq=>q.ef (λz=>by replace e:=c▸z▸e;clear z q b a hn hs c S ad h' h;cases e) λz=>bC z;have X:At bk P (P.o4 ad []) d d h h':=⟨λt k l=>⟨l,rfl⟩,λb o e Z=>hs b o e,λb o M e Z Z=>⟨o.vT,hs b o e⟩,λb o e=>⟨o,hs b o e⟩,k0⟩;refine⟨⟨λb t k e=>?_,λb M e=>?_,λZ b M e=>?_,λb o e=>⟨hs b o (S.tg b o e).1,(k0 b o (S.tg b o e).1).trans (S.tg b o e).2⟩,λt k o e=>?_,S.fresh,S.DD.kx (λb e=>(a e).ef (λz=>bf GX.b4 z.1 rfl) id) λb o f e=>⟨hs b o e,(k0 b o e).trans f⟩⟩,X⟩
 ·exact(a e).ef (λz=>bf GX.b4 z.1 rfl) λq=>(S.min b t k q).DO λo q=>hs b o q
 ·clear X k0 hn hs c h';rcases a e with⟨z,rfl⟩ |q
  ·clear e a S h;cases z;exact a5.i3 _
  ·exact S.low b M q
 ·clear X k0 c;rcases a e with⟨z,rfl⟩ |q
  ·exact hn
  ·exact(S.qL trivial b M q).DO λo z=>⟨hs b o z.1,z.2⟩
 ·haveI r:=(S.ed t k o e).1;haveI w:=(S.ed t k o e).2;exact aN (S.min _ t k w) λm i=>⟨r.hC (λr=>r.kx X.q7) w rfl λb y j g=>⟨hs b y g,(k0 b y g).trans j⟩,(k0 _ _ i).trans w⟩
theorem sJ(hx:cO io=true)(h1:qZ C cr x=true)(h2:aM c9 G.D.ev C vG io=true)(h3:aM c9 G.D.ev (C.comp cr oa x) el lm=true)(h4:fK c9 G.D.ev (C.comp cr oa x) cs kt=true)
  (hi:IT true Q vs d vG false l3 ok dw) (hn:l3.ah<=1000000) (hw:bH Q ok oa el cs vs l3 dw EQ gK) (a:o9 true Q C A u vs P d s) (D:bS (a9->xE y5)) {E:a9->a6->Prop} {L:a9->a6->Prop}
  (k:∀Dl ad s' P',St G.D P' (gK.hM ce (.dG EQ)) s'->At bk P P' d (gK.hM ce (.dG EQ)) s.bh s'.bh->aF P' (gK.hM ce (.dG EQ)) s'.bh (.bs ce (gK.gz ce)) (.bs Dl)->P'.k0 ad=.f5 ad->(∀b o,s.bh.ck b=ap o->b<ad)->u.gX≠ad->(∃m,s'.bh.Ns ad m)->oh (dd G.D.bZ G.D.w) A L D E (.bs Dl) ad s'):
  ch (dd G.D.bZ G.D.w) A (comprehension (.H9 lm [⟨.r0 x px,io,kt,0⟩] cr bv) cr u p0 (newList []) false (a8.pa io u) D) E L s:=by
 have o:=uG h1;obtain⟨FX,pz,up,uE⟩:=o5 (cr:=cr) (u:=u) λp hp hf=>a.F.uE p.1 (by
  rw[a.k.kd];rcases o.l3 p hp with q |q |q
  ·exact(bf nc.b4 (hf.symm.trans q.1) rfl)
  ·exact q.2.2
  ·exact(bf nc.b4 (hf.symm.trans q) rfl))
 refine lZ rfl (λ_=>nV hx) pz o.s9 (λy F N=>?_) (hi C io h2 A u P s a (a.ac.hd rfl) _ L λit s1 P1 as be i l n0 T H=>?_)
 ·rcases o.l3 y F with q |q |q
  ·exact q.2.ef (λz=>z▸o.at_) λz=>z▸o.O8
  ·exact(bf nc.b4 (N.symm.trans q.1) rfl)
  ·exact(bf nc.b4 (N.symm.trans q) rfl)
 refine cl (wf ?_);refine cl (wpAny_newFunctionEnv (λy F e=>?_) (λ_ z=>bC z) (λO v R=>?_) o.s9)
 ·rcases o.l3 y F with q |q |q
  ·exact(bf nc.b4 (e.symm.trans q.1) rfl)
  ·exact(bf nc.b4 (e.symm.trans q.1) rfl)
  ·exact(bf nc.b4 (e.symm.trans q) rfl)
 haveI a1:=a.on i l;haveI S:=(i.cW (ob:=b7 [] 0) rfl (tk:=s1.hO)).1;haveI I:=(i.cW (ob:=b7 [] 0) rfl (tk:=s1.hO)).2.1;haveI U:=(i.cW (ob:=b7 [] 0) rfl (tk:=s1.hO)).2.2.1;haveI j:=(i.cW (ob:=b7 [] 0) rfl (tk:=s1.hO)).2.2.2;dsimp only at v R ⊢;haveI hL:(s1.bh.o4 (b7 [] 0)).kq.hN=s1.bh.kq.hN+1:=d4.size_push ..;haveI wH:∀b o,(s1.bh.o4 (b7 [] 0)).ck b=ap o->b≠(s1.bh.o4 (b7 [] 0)).kq.hN:=λb o e z=>a5.q5 _ (a5.ew (d4.JL e) (a5.mZ z.symm));have j1:∀b o,(s1.bh.o4 (b7 [] 0)).ck b=ap o->O.ck b=ap o:=λb o e=>R.extBut b o (wH b o e) (d4.e7 _ e);haveI S3:=(S.h.pd bT j1 (Ns.rE v)).1;haveI w:=(S.h.pd bT j1 (Ns.rE v)).2;have lt:∀b o,s.bh.ck b=ap o->b<(s1.bh.o4 (b7 [] 0)).kq.hN:=λb o e=>(l.kG b o e).ef λo' e'=>by refine ab hL ?_;exact a5.IP (d4.JL e')
 have V:u.gX≠(s1.bh.o4 (b7 [] 0)).kq.hN:=by
  refine aD λZP M=>?_;obtain⟨m,⟨oo,_,_,ho,_⟩,_⟩:=a.F.ns;refine M ?_;exact a5.sK (lt _ _ ho)
 haveI W:s.bh.ck s1.bh.kq.hN=bk:=eW l bT;haveI K:JK C cr oa x u (compEnvC cr FX (s1.bh.o4 (b7 [] 0)).kq.hN u):=⟨o,rfl,⟨λn=>(by
  show(relabel cr u).em.eh n=_;refine ab (jB a.F.s9 a.k) ?_;rfl),(λz=>dP z)⟩,rfl,rfl,up,uE,V⟩
 haveI Y:=(l.trans I).trans w;haveI J:A8 C Q A u vs (s1.bh.o4 (b7 [] 0)).kq.hN s1.bh.kq.hN s.bh P d [] (P1.o4 (s1.bh.o4 (b7 [] 0)).kq.hN []) dw {s1 with bh:=O,hO:=s1.hO+([]:am (h9×a9)).ah}:=
  ⟨a.on ⟨S3,i.r⟩ Y,Y,et (.u0 rfl),⟨_,v⟩,(w.k0 _ _ U).trans j.1,[],0,j1 _ _ U,rfl⟩
 haveI GN:s1.bh.kq.hN∉as:=λm=>(T.has 0 _ _ _ H _ m).ef λo e=>(oP (e.symm.trans bT));have Z:=w0 (px:=px) (bv:=bv) (io:=io) T hn K h3 h4 a.S.h.low lt W j.2 n0 GN hw J (T.j1 _ _ _ _ _ _ _ _ H (I.trans w)) (λr s'=>∃f,r=.ok f/\oh (dd G.D.bZ G.D.w) A L D E (.bs s1.bh.kq.hN) (s1.bh.o4 (b7 [] 0)).kq.hN s') λs' P' c=>⟨_,rfl,?_⟩
 ·exact yd Z λL=>T.y6 0 _ _ _ (T.j1 _ _ _ _ _ _ _ _ H (I.trans w)) _ _ Z
 refine aD λZP M=>?_;refine aO c.Iq λus n h B=>?_;refine aN c.ns λm ns=>?_;refine M ?_;haveI S':=(c.a.S.h.adopt (t:=ce) (o:=.dG EQ) (a:=s1.bh.kq.hN) (h':=s'.bh) (λ_ _ _ e=>e) c.oD j.2 ⟨_,h,i8 rfl (by decide) (by decide)⟩ ⟨_,h⟩ λg=>⟨us,n,ey.symm▸h,B.kx g⟩).1;haveI g:=(c.a.S.h.adopt (t:=ce) (o:=.dG EQ) (a:=s1.bh.kq.hN) (h':=s'.bh) (λ_ _ _ e=>e) c.oD j.2 ⟨_,h,i8 rfl (by decide) (by decide)⟩ ⟨_,h⟩ λg=>⟨us,n,ey.symm▸h,B.kx g⟩).2.1;haveI X:=(c.a.S.h.adopt (t:=ce) (o:=.dG EQ) (a:=s1.bh.kq.hN) (h':=s'.bh) (λ_ _ _ e=>e) c.oD j.2 ⟨_,h,i8 rfl (by decide) (by decide)⟩ ⟨_,h⟩ λg=>⟨us,n,ey.symm▸h,B.kx g⟩).2.2.1;haveI r:=(c.a.S.h.adopt (t:=ce) (o:=.dG EQ) (a:=s1.bh.kq.hN) (h':=s'.bh) (λ_ _ _ e=>e) c.oD j.2 ⟨_,h,i8 rfl (by decide) (by decide)⟩ ⟨_,h⟩ λg=>⟨us,n,ey.symm▸h,B.kx g⟩).2.2.2;exact k _ _ s' _ ⟨S',c.a.S.r⟩ (X _ _ _ _ c.ext W) r ((dx λz=>(qo c.oL c.oD (λz=>bf GX.b4 z rfl)) (z.ef id id)).trans c.oL) lt V ⟨m,ns⟩
theorem EX.lc(hi:IT true Q vs d vG false l3 ok dw)(hn:l3.ah<=1000000)(g:bH Q ok oa el cs vs l3 dw EQ gK):EX true Q vs d (.lc el oa vG cs) (.ok (.bs ce (gK.gz ce)) (gK.hM ce (.dG EQ))):=λC e h A u P s a=>by
 refine ar (aj h) λp i q=>?_;clear h;subst i;refine ar (aj q) λy j q=>j▸?_;intro E L k;refine sJ (ce:=ce) (ao q) (ao (ai q)) (ao (ai (ai q))) (ao (ai (ai (ai q)))) (ai (ai (ai (ai q)))) hi hn g a bk λDl ad s' P' S' l r oL nL n ns=>?_;refine aN ns λm ns=>⟨m,ns,λh' o b c=>?_⟩;haveI f:=(S'.h.fq oL c (Ns.rE b)).2;exact k _ {s' with bh:=h'} _ ⟨((S'.h.fq oL c (Ns.rE b)).1),S'.r⟩ (At.hW a.S.h.low nL l f) (r.kx f.q7)
abbrev SS.AR:Prop:=∀(hi:IT true Q vs d vG false l3 ok dw) (hn:l3.ah<=1000000) (a:bH Q ok oa el cs vs l3 dw EQ gK),SS true Q vs d (.asc i (.lc el oa vG cs)) .nx (vs.fC i (.bs ce (gK.gz ce))) (gK.hM ce (.dG EQ))
theorem SS.asc:∀{Q vs EQ l3 d dw gK oa ce i el vG cs ok},@SS.AR Q vs EQ l3 d dw gK oa ce i el vG cs ok:=by
 refine λ{Q vs EQ l3 d dw gK oa ce i el vG cs ok}=>cK (q:=vd @SS.AR) ((?_:∀Q vs EQ l3 d dw gK oa ce i el vG cs ok,@SS.AR Q vs EQ l3 d dw gK oa ce i el vG cs ok) _ _ _ _ _ _ _ _ _ _ _ _ _ _) (Q,vs,EQ,l3,d,dw,gK,oa,ce,i,el,vG,cs,ok);intro Q vs EQ l3 d dw gK oa ce i el vG cs ok hi hn D;exact λC nf e h A u P s a=>by
  refine aD λW F=>?_;refine ar (aj (F9.symm.trans h)) λk1 X g=>?_;clear h;subst X;refine ar (cu g) λt' H g=>?_;have J:=ai (ai (ai g));have K:=ra (ao g);refine aO (sO (ao (ai g))) λn c Y M=>?_;clear g;subst Y;refine ar (aj (show(aZ (AU k1.2.1) λk=>aZ (eO k.2.1) λx=>cO k.2.2.1&&(qZ C k.2.2.2.2.1 x.1&&(aM c9 G.D.ev C vG k.2.2.1&&(aM c9 G.D.ev (C.comp k.2.2.2.2.1 oa x.1) el k.1&&fK c9 G.D.ev (C.comp k.2.2.2.2.1 oa x.1) cs k.2.2.2.1))))=true from J)) λp j q=>ar (aj q) λy N q=>?_;apply F;clear F;replace j:=N▸j;refine ab H ?_;obtain⟨b,hb⟩:∃b,K8 k1.2.1 (ap (.r0 n c)) k1.2.2.line u=h8 b:=j▸⟨_,rfl⟩;haveI O:a8.exec (.LA [.r0 n c] k1.2.1 k1.2.2) u=(kK k1.2.2>>=λ_=>K8 k1.2.1 (ap (.r0 n c)) k1.2.2.line u>>=λb=>
    if b then(evalThenUse k1.2.1 u (λv=>assignAll v [a8.Cj (.r0 n c) u])>>=λ_=>h8 .next)else a8.pa k1.2.1 u>>=λv=>Db [.r0 n c] k1.2.1 u>>=λZ=>assignStores u v Z [a8.Cj (.r0 n c) u]):=rfl
  rw[O,hb,pure_bind];apply ba.aU;clear hb O N g H W;cases b with
  |false=>
   exact ba.lift (EX.lc hi hn D C _ J A u P s a.mJ) λI s' P' S' l r=>cw.next (cw.aU (iI S' (a.F.kx l) K M r))
  |true=>
   refine ab (et rfl) (ab j ?_);intro E L k _;refine aa (aa (sJ (ce:=ce) (ao q) (ao (ai q)) (ao (ai (ai q))) (ao (ai (ai (ai q)))) (ai (ai (ai (ai q)))) hi hn D a.mJ (ap λv=>assignAll v [a8.Cj (.r0 n c) u]) λDl ad s' P' S' l r oL nL R ns=>?_));show ch _ A (kK c>>=λ_=>bindName u n (.bs Dl)) _ L s';refine aa (ax (iI S' (a.F.kx l) K M r _ L λs2 P2 t w f=>aN ns λm ns=>?_));haveI gL:=Ns.rE ns;have S:=gL.ef λo z=>(w.k0 _ o z.1).trans oL;have T:=Ns.vT ns λo e=>w.f5 _ o _ e oL λz=>R (bS.ap.zv z).symm;refine⟨m,T,λh' m' U B=>af (af ?_)⟩;haveI V:=(t.h.fq S B (Ns.rE U)).2;exact k _ {s2 with bh:=h'} P2 ⟨((t.h.fq S B (Ns.rE U)).1),t.r⟩ (At.hW a.hS.h.low nL (l.weak.trans w) V) ⟨f.toFm.other B R (λv=>Ns.yP T v) V.q7,f.f5,f.eU,f.apart,f.has,f.nd,f.GQ⟩ rfl
end
end Internal
end
section
namespace Tactic
def oJ(Iq:am (h9×a9))(x:h9×a9):am (h9×a9):=if(Iq.eh x.1).H_=true then Iq++[x]else Iq
theorem lP:∀(l:am (h9×a9)) (Iq:am (h9×a9)),
  (forIn l Iq λ(x:h9×a9) (s:am (h9×a9))=>if(am.eh x.fst s).H_=true then(h8 (Lo.yield (s++[(x.fst,x.snd)])):xE _)else h8 (Lo.yield s))=h8 (l.foldl oJ Iq)
 | [],Iq=>rfl
 |x::l,Iq=>by
  rw[am.forIn_cons,am.foldl_cons,oJ];by_cases h:(am.eh x.fst Iq).H_=true
  ·rw[et h,et h,pure_bind];exact lP l _
  ·rw[dx h,dx h,pure_bind];exact lP l _
theorem lookup_mem{n:h9}:∀{l:am (h9×a9)},(l.eh n).H_=false↔n∈l.hC (·.1):=by
 intro c
 induction c with
 |iv=>
  exact⟨(λz=>a4.mj z),(λz=>a4.bC z)⟩
 |d2 x l d=>
  obtain⟨a,b⟩:=x;rw[am.lookup_cons,am.wL,am.hD];by_cases h:n=a
  ·rw[wn.ow h];exact⟨λZ=> .u0 h,λZ=>rfl⟩
  ·rw[ki.ow h];exact d.trans ⟨.wl,λz=>z.K0 h⟩
theorem qM:∀{l Iq:am (h9×a9)},(∀x∈l,x.1∈Iq.hC (·.1))->l.foldl oJ Iq=Iq:=by
 intro a
 induction a with
 |iv=>
  intro Z Z;fail"c"
 |d2 x l b=>
  intro Iq h;apply(am.foldl_cons).trans;rw[oJ];refine a4.ab (lookup_mem.ow (h x (.sk _))) ?_;exact b λy c=>h y (.sy _ c)
theorem uu:∀{l Iq:am (h9×a9)},((Iq++l).hC (·.1)).p9->l.foldl oJ Iq=Iq++l:=by
 intro a
 induction a with
 |iv=>
  intro Iq Z;exact(am.x6 Iq).symm
 |d2 x l b=>
  intro Iq h;haveI e:Iq++x::l=(Iq++[x])++l:=by rw[am.sN];rfl
  have c:(Iq.eh x.1).H_=true:=by
   cases q:(Iq.eh x.1).H_ with
   |true=>rfl
   |false=>
    rw[am.LI]at h;exact kk rfl ((am.nodup_append.mp h).2.2 _ (lookup_mem.mp q) _ (.sk _))
  apply(am.foldl_cons).trans;rw[oJ];refine a4.ab (et c) (a4.ab e ?_);rw[e]at h;exact b h
theorem qx{n:h9}{v:a9}:∀{l:am (h9×a9)},(l.hC (·.1)).p9->(n,v)∈l->l.eh n=ap v:=by
 intro a
 induction a with
 |iv=>
  intro Z h;exact a4.bC h
 |d2 x l b=>
  intro hn h;rw[am.wL,am.p5]at hn;refine a4.ab am.lookup_cons ?_;rcases am.hD.mp h with rfl |e
  ·rw[Bb]
  ·exact a4.ab (ki.ow λq=>hn.1 (am.JQ.ow (a4.aR _ e q))) (b hn.2 e)
theorem picked{l:am (h9×a9)}(a:(l.hC (·.1)).p9):∀(m:am (h9×a9)),(∀x∈m,x∈l)->(m.hC (·.1)).C2 (λn=>(l.eh n).hC (n,·))=m:=by
 intro b
 induction b with
 |iv=>
  exact λZ=>rfl
 |d2 x m c=>
  intro h;exact a4.ab am.wL (a4.ab am.filterMap_cons (a4.ab (qx a (h x (.sk _))) (b5 (x::·) (c λy d=>h y (.sy _ d)))))
theorem iG{α β:Type}:∀(a:am α) (b:am β),(a.zip b).hC (·.1)=a.m0 b.ah
 | [],_=>by rw[am.take_nil];rfl
 |_::_,[]=>rfl
 |x::a,y::b=>b5 (x::·) (iG a b)
theorem rJ{α β:Type}{a:am β}:∀{db:am β} {em:am α},db.ah<=em.ah->em.zip (db++a)=em.zip db++(em.zt db.ah).zip a
 | [],em,_=>by exact a4.ab am.zip_nil_right rfl
 |v::db,[],h=>nomatch h
 |v::db,n::em,h=>b5 ((n,v)::·) (rJ (a5.le_of_succ_le_succ h))
theorem fold_all{em:am h9}{db a:am a9}(hn:em.p9)(h1:db.ah<=em.ah)(h2:em.ah=db.ah\/em.ah=db.ah+a.ah)(h3:a.ah<=em.ah):
  ((em.zt (em.ah - a.ah)).zip a).foldl oJ (em.zip db)=em.zip (db++a.zt (a.ah+db.ah - em.ah)):=by
 rcases h2 with h2 |h2
 ·refine(h2)▸?_;rw[a5.ur,am.Ke,am.x6];refine qM λx b=>?_;have:=am.Ic (f:=(·.1)) b;rw[iG]at this ⊢;refine a4.ab (h2.symm) ?_;rw[am.H2];exact am.mem_of_mem_drop (am.mem_of_mem_take this)
 ·haveI e:em.zip (db++a)=em.zip db++(em.zt db.ah).zip a:=rJ h1;refine a4.ab ((a5.Ij (a5.mZ (a5.tz a.ah _ |>.trans h2.symm)))) (a4.ab am.drop_zero (a4.ab (show em.ah - a.ah=db.ah from h2▸a5.ur ..) (a4.ab e ?_)));apply uu;refine a4.ab (e.symm) ?_;rw[iG,am.ep,←h2,am.H2];exact hn
abbrev ko{s:a6}{fd:xF}{as:am Arg}{kd:am (bS fY)}{b:am fY}{db a:am a9}{em:am h9}:Prop:=∀(c:fd.params={posonlyargs:=[],args:=as,vararg:=bk,kwonlyargs:=[],kw_defaults:=kd,kwarg:=bk,defaults:=b}) (d:as.hC (·.arg)=em) (hn:em.p9) (h1:db.ah<=em.ah) (h2:em.ah=db.ah\/em.ah=db.ah+a.ah) (h3:a.ah<=em.ah) (hd:∀M A (E:bS (rv a9)->a6->Prop) L,(∀x:bS (rv a9),(x.ww #[]).q6=a->E x s)->a8.ch M A (seqItems? fd.defaults) E L s),BindsTo s fd ⟨db,[]⟩ (em.zip (db++a.zt (a.ah+db.ah - em.ah)))
theorem lq:∀{s fd as kd c db b em},@ko s fd as kd c db b em:=by
 refine λ{s fd as kd c db b em}=>a4.cK (q:=a4.wc @ko) ((?_:∀s fd as kd c db b em,@ko s fd as kd c db b em) _ _ _ _ _ _ _ _) (s,fd,as,kd,c,db,b,em);intro s fd as kd c db b em i j hn h1 h2 h3 hd;intro M A E L q;delta a8.bindArgs;refine a4.ab i ?_;dsimp only;refine a4.ab j ?_;refine a7 (a8.cp (a7 (hd _ _ _ _ λx k=>a4.ab k ?_)));haveI m:(decide (db.ah>em.ah)&&(bk:bS Arg).H_)=false:=by rw[ia (a5.to.ow h1)];rfl
 have f:am.zt (b.ah - em.ah) b=b:=by exact a4.ab (a5.Ij h3) rfl
 have o:am.filter (λn=>(am.eh n (em.zip db)).H_) (am.m0 (em.ah - (am.zt (b.ah - em.ah) b).ah) em)=[]:=by
  rw[f,am.filter_eq_nil_iff];intro n g e;have:n∈am.m0 db.ah em:=by
   rw[←a5.ux (a5.sub_le_of_le_add (h2.ef (λz=>z▸a5.f0 _ _) a5.mZ):em.ah - b.ah<=db.ah),←am.take_take]at g;exact am.mem_of_mem_take g
  rw[←iG]at this;exact a4.dP ((lookup_mem.ow this)▸e)
 refine a8.wpAny_ite_false (ia (ne_true_of_eq_false m)) (a8.wpAny_ite_false (ia (ne_true_of_eq_false (b5 (λl:am h9=> !l.sw) o))) ?_);refine a7 (a8.gu (a:=em.zip (db++b.zt (b.ah+db.ah - em.ah))) ((b5 (λQ=>forIn ((em.zt (em.ah - am.ah Q)).zip Q) _ _) f).trans ((lP _ _).trans (b5 h8 (fold_all hn h1 h2 h3)))) ?_);refine a7 (a8.cp (a8.wpAny_ite_false rfl ?_));have d:(em.zip (db++b.zt (b.ah+db.ah - em.ah))).hC (·.1)=em:=by
  rw[iG,am.ep];refine a4.ab am.Kc ?_;exact am.na (h2.ef (λz=>a5.bb (a5.mZ z) (a5.f0 _ _)) λz=>by rw[z,a5.tz b.ah,a5.sub_self];exact a5.i3 _)
 generalize em.zip (db++b.zt (b.ah+db.ah - em.ah))=l at q d;exact a8.cp (a4.ab ((b5 (am.C2 _) (am.x6 em)).trans (Eq.trans (d▸rfl) (picked (d.symm▸hn) _ λx h=>h))) q)
end Tactic
end
section
namespace Internal
open Tactic
theorem CC{P:Ph}{d:H}{h:d4}{c:KF}{v:a9}(e:NK c v=true):aF P d h (tI c) v:=by
 cases c with
 |bk=>cases v with
  |bk=>exact rfl
  |_=>exact dP e
 |bn i=>cases v with
  |bn j t=>exact⟨t,b5 (a9.bn · t) (cx e).symm⟩
  |_=>exact dP e
 |_=>exact dP e
theorem n_{P:Ph}{d:H}{h:d4}:∀{l:am KF} {us:am a9},FU l us=true->aA P d h (l.hC tI) us
 | [],us,e=>am.sn.mp e
 |c::l,[],e=>dP e
 |c::l,I::us,e=>eN I us rfl (CC (ao e)) (n_ (ai e))
theorem qX{K:Frag}{Q:a9}{p:am a9->ct}(e:CB K Q p=true):∃a,p a=true/\∀s:a6,K.In s.bh->∀M A (E:bS (rv a9)->a6->Prop) L,(∀x:bS (rv a9),(x.ww #[]).q6=a->E x s)->a8.ch M A (seqItems? Q) E L s:=by
 cases Q with
 |bk=>exact aR ([]) e (λs Z M A E L q=>a8.a7 (a8.cp (a8.cp (q _ rfl))))
 |bs T=>
  refine aD λf b=>?_;obtain⟨⟨g,od,dt,sl⟩,c,e⟩:=cU e;refine ar (aj e) λp d e=>?_;subst d;apply b;exact aR p.1.q6 e (λs X M A E L q=>a8.a7 (a8.wpAny_load (X _ _ c) (a8.cp (q _ rfl))))
 |_=>exact dP e
section
variable{lp:ct}{Q f:a5}{F:Fn}{cA:e9}{cq:h9}{P:Prop}
abbrev qN:Prop:=∀(h:DZ G.D.K c9 G.D.ev cA cq (nY f) F=true) (a:Dj G.D (.bs cA) (cq++ ".<locals>.")) (c:∀o fd b,MC f F o fd b (F.sl.m0 F.zs) (II fd F)->(F.sl.m0 F.zs).ah=F.zs->(∀(s:a6) (db:am a9),G.D.K.In s.bh->db.ah=F.zs->BindsTo s fd ⟨db,[]⟩ ((F.sl.m0 F.zs).zip db))->(∀{ci:am V},ci.ah+F.dflt.ah=F.zs->Ex fd (F.sl.m0 F.zs) ci (ci++F.dflt.hC tI))->P),P
theorem DY:∀{f F cA cq P},@qN f F cA cq P:=by
 refine λ{f F cA cq P}=>cK (q:=xO @qN) ((?_:∀f F cA cq P,@qN f F cA cq P) _ _ _ _ _) (f,F,cA,cq,P);intro f F cA cq P h J K;refine ar (cU h) λo N h=>ar (aj h) λfd O h=>?_;haveI h1:=ai h;haveI h2:=ai h1;haveI h3:=ai h2;haveI h4:=ai h3;haveI h5:=ai h4;haveI h6:=ai h5;haveI h7:=ai h6;haveI m:=ai h7;haveI t:=ai m;have u:=ai t;haveI v:=ai u;haveI w:=ai v;haveI x:=ai w;haveI B:=ai x;refine ar (aj (ai B)) λb hb Q=>?_;refine ar (aj Q) λp C c=>ar (qX (ao h7)) λR D G=>?_;have nd:=ra (ao m);have g:=a5.ft (ao w);haveI dn:=a5.ft (ao x);have k:=cx (ao c);have ER:(F.sl.m0 F.zs).ah=F.zs:=by rw[←k,am.fz];exact cx (ao (ai c))
 have at_:∀{i:a5} {n:h9},i<F.nf->F.sl[i]?=ap n->(F.sl.m0 F.nf)[i]?=ap n:=λhi e=>(am.KL hi).trans e;have has:∀{i:a5} {n:h9},i<F.nf->F.sl[i]?=ap n->fd.jp.em.eh n=ap .local\/fd.jp.em.eh n=ap .E2:=λhi e=>(ct.x2.mp (am.nw.mp (ao v) _ (am.mem_of_getElem? (at_ hi e)))).DO cx cx;haveI arg:∀{i:a5} {n:h9},(F.sl.m0 F.zs)[i]?=ap n->i<F.zs/\F.sl[i]?=ap n:=λe=>by
  haveI hi:=(am.hv.mp e).1;rw[ER]at hi;exact⟨hi,(am.KL hi).symm.trans e⟩
 have l:(F.sl.m0 F.zs).p9:=by
  rw[←a5.ux g,←am.take_take];exact(am.Fd _ _).nodup nd
 have H:=((n_ (P:=⟨λZ Z=>0,λZ=> .j2⟩) (d:=⟨λZ Z=>bk,λZ=>0⟩) (h:=yT) D).ah.symm.trans (am.fz ..));refine K o fd b ⟨N,O,cx (ao h),am.sn.mp (ao h1),cx (ao h2),hb,ao h3,mR (ao h4),mR (ao h5),cx (ao h6),l,ra (ao t),λi n hi e=>(am.KL (ER▸hi)).trans e,λn=>rfl,λn e=>?_,λi n hi e=>has hi e,λi n e=>has (a5.ew (arg e).1 g) (arg e).2,λi j n hi S I T=>?_,ER.symm▸g,ai (ai c),λe=>?_⟩ ER (λs db dW ha=>?_) λ{ci} ha s db P d dW r=>?_
 ·haveI y:=am.nw.mp (ao u) _ (bU e);exact dP y
 ·exact(am.getElem?_inj (am.hv.mp (at_ hi I)).1 nd).mp ((at_ hi I).trans (at_ S T).symm)
 ·haveI y:=ao B;rw[show F.lam=true from e]at y;haveI U:=cx (ao y);haveI V:=cx (ai y);exact ab U (ab V J)
 ·have a:=ha.trans ER.symm;haveI z:=lq C k l (a5.mZ a) (.u0 a.symm) (by rw[ER,H];exact dn) λM A E L q=>G s dW M A E L q;rw[a,a5.ur,am.Ke,am.x6]at z;exact z
 ·have a:(F.sl.m0 F.zs).ah=db.ah+R.ah:=by exact(ER).trans (lG r.ah (ab H (ab ha rfl)))
  haveI z:=lq C k l (ab a (a5.f0 _ _)) (.wl a) (ab a (a5.le_add_left _ _)) λM A E L q=>G s dW M A E L q;rw[a,a5.tz,a5.sub_self]at z;exact aR _ z (aA.append (n_ D) r)
end
section
variable{fa:a5->e9}{t f8 eo:a5}{C fI:e9}{rs:am e9}{p:ro->ct}{P:Prop}
abbrev n8:Prop:=∀(h:zR G.D.K C fI rs p=true),∃cd,cG G.D.K C fI cd/\p cd=true
theorem FO:∀{C fI rs p},@n8 C fI rs p:=by refine λ{C fI rs p}=>cK (q:=EG @n8) ((?_:∀C fI rs p,@n8 C fI rs p) _ _ _ _) (C,fI,rs,p);intro C fI rs p h;refine ar (cU h) λcd g h0=>ar (cU h0) λo i h=>?_;haveI h1:=ai h;haveI h2:=ai h1;haveI h3:=ai h2;haveI h4:=ai h3;haveI h5:=ai h4;haveI h6:=ai h5;haveI h7:=ai h6;haveI a:=ai h7;haveI b:=ai a;haveI c:=ai b;haveI d:=ai c;haveI e:=ai d;haveI f:=ai e;exact aR cd ⟨g,⟨o,i,cx (ao h),cx (ao h1)⟩,mR (ao h2),mR (ao h3),ao h4,⟨rs,cx (ao h5)⟩,ao h6,cx (ao h7),cx (ao a),cx (ao b),cx (ao c),cx (ao d),cx (ao e),ao f⟩ (ai f)
abbrev qR:Prop:=∀(h:zS G.D.K fI=true) (a:∀o fd b,u7 fI o fd b->P),P
theorem IL:∀{fI P},@qR fI P:=by
 refine λ{fI P}=>cK (q:=EH @qR) ((?_:∀fI P,@qR fI P) _ _) (fI,P);intro fI P h j;refine ar (cU h) λo k h=>ar (aj h) λfd l h=>?_;haveI h1:=ai h;haveI h2:=ai h1;haveI h3:=ai h2;haveI h4:=ai h3;haveI h5:=ai h4;haveI h6:=ai h5;haveI h7:=ai h6;haveI a:=ai h7;haveI c:=ai a;haveI d:=ai c;have f:=ai d;haveI g:=ai f;refine ar (aj (ai g)) λb hb i=>ar (aj (ai i)) λq m n=>ar (qX (ao g)) λt p r=>?_;haveI top:findCls G.D.K (.fX "ValueError") (.fX "type") "__init__" =ap (.val (.eu "ValueError.__init__")):=by
  have y:=ao f;clear r p t n m q i hb b g f d c a h7 h6 h5 h4 h3 h2 h1 h l fd k j;cases e:findCls G.D.K (.fX "ValueError") (.fX "type") "__init__" with
  |bk=>replace y:=e▸y;exact dP y
  |ap z=>
   replace y:=e▸y;clear e h o;cases z with
   |val v=>exact ab (cx y) rfl
   |LL=>exact dP y
 refine j o fd b ⟨k,l,cx (ao h),am.sn.mp (ao h1),cx (ao h2),hb,ao i,ao h3,mR (ao h4),mR (ao h5),cx (ao h6),cx (ao h7),cx (ao a),cx (ao c),cx (ao d),top,λs I v dW=>?_⟩;haveI z:=lq (db:=[I,v]) m (cx n) (by decide+kernel) (a5.i3 2) (.u0 rfl) (a5.ft p) λM A E L q=>r s dW M A E L q;rw[show [I,v].ah=[("self" :h9),"reason"].ah from rfl,a5.ur,am.Ke]at z;exact z
end
end Internal
end
section
namespace Internal
section
variable{lp:ct}{Q:a5}{C:Cx}{A:ec}{u:Cg}{vs aL ws l3:am V}{P P':Ph}{d U ay:H}{s s':a6}{x:X}{v w:V}{nf j:a5}{is:am a5}{fl:Fl}{ok:H->Prop}{b:am S}
theorem F0{gl:am (h9×Gl)}{ev:a5->h9}{e:xo}:fD gl ev C nf (.G2 j is x b) e=(aZ (pT e) λk=>aZ (cn k.1) (λt=>Io t.1 λI c=>decide (j<nf)&&(Dd C j I&&aZ (cn c) λt=>w6 C nf is t.1))&&(cO k.2.1&&(aM gl ev C x k.2.1&&cD gl ev C nf b k.2.2.1))):=rfl
theorem SS.G2{tt:ct}(hi:IT true Q vs d x tt l3 ok U)(B:aV true Q ok (λv vs cb=>∃w ws,v=.KS [w,.KS ws]/\ws.ah=is.ah/\cb=bP is ws (vs.fC j w)) b l3 vs U fl aL ay):SS true Q vs d (.G2 j is x b) fl aL ay:=λC nf e h A u P s a=>by
 refine ar (aj (F0.symm.trans h)) λp N q=>?_;clear h;subst N;haveI q2:=ai q;refine ar (aj (ao q)) λk2 D F=>?_;refine aO (cM F) λI c n l=>?_;refine ar (aj (ai (ai l))) λk3 G O=>?_;refine zA (a.ac.hd rfl) hi B (λv vs cb R A u P d s u' a r=>?_) (λ_=>by exact ab D rfl) (ao q2) (ao (ai q2)) (ai (ai q2)) a;clear q2 q F B hi tt;obtain⟨w,ws,rfl,hn,rfl⟩:=R;refine aD λS g=>?_;obtain⟨b,us,rfl,f,tp,r⟩:=r;refine dQ r λT PI V W H=>dQ H λu1 o X Y Z=>?_;apply g;clear g r H;subst V;subst X;obtain rfl:o=[]:=Z;have t:=vQ (C:=C) O;have l2:=(eX t).2;have J:bc c=true:=by rw[G];rfl
 have K:bc I=true:=aO (sO (ao (ai l))) λid bv e6 _=>by rw[e6];rfl
 refine ab D ?_;refine λE L k=>kE (a.ac.hd rfl) tp (by rw[n];rfl) (by rw[n,am.all_cons,am.all_cons,K,J];rfl) λh' hx=>?_;haveI i:=a.hS.h.hA hx;have a1:fH true Q C nf A u vs P d {s with bh:=h'}:=a.on ⟨i.1,a.hS.r⟩ i.2;rw[n,dh K,dh J];refine aa (ak (TG.wQ C nf I (ct.pn.ow ⟨ao l,ao (ai l)⟩) A u P {s with bh:=h'} T a1 (W.kx i.2.q7) _ L λs3 P3 y z F3=>?_));refine aa (ak ?_);have rt:=(Y.kx i.2.q7).kx z.q7;refine aD λS g=>?_;obtain⟨b2,o,rfl,f2,JN,M⟩:=rt;apply g;clear g;rw[G];show ch _ _ (a8.Cj (.KK k3.1 k3.2.1 k3.2.2) u (.bs b2)) _ _ _;refine kE (a.ac.hd rfl) JN (((eX t).1).symm.trans ((am.fz ..).trans (hn.symm.trans M.ah))) l2 λh5 OH=>?_;haveI m:=y.h.hA OH;have a3:=a1.next y z F3;exact fF.em hn C nf k3.1 t A u P3 {s3 with bh:=h5} o (a3.on ⟨m.1,y.r⟩ m.2) (M.kx m.2.q7) _ L λs4 P4 S4 X4 F4=>af (k s4 P4 S4 (i.2.weak.trans (z.trans (m.2.weak.trans X4))) F4)
end
end Internal
end
section
open PySem.SeqAt
namespace Internal
section
variable{lp:ct}{P:Ph}{d U:H}{s:a6}{v w:V}{t k t' k' n ce:a5}{l m:am V}{b c:am cy}{x y:b0}{A:ec}
theorem bJ.Lq{b:ct}:bJ lp 22 [.gg b] d (.ok (.bn (if b=true then 1 else 0)) d):=xG rfl λA P s I E L a hd S r k=>by
 obtain rfl:I=_:=r;exact cl (call_int_bool (S.bn k))
theorem bJ.Ec{l:am (b0×V)}(f:d.ed t k=ap (.di l))(q:l.ah<=aQ):bJ lp 7 [.bs t k] d (.ok (.bs ce (d.gz ce)) (d.hM ce (.di l))):=xG rfl λA P s I E L m hd S r g=>by
 obtain⟨rfl,lv⟩:=r;refine ar ((S.h.ed _ _ _ f).1) λh i a=>?_;exact cl (kt_call_dict (S.tY lv) i (a5.bb (lG a.ER q) av) λh' c hs=>S.Gj (o:=.di l) (λb x e=>(hs.2 b (a5.sK (d4.JL e))).trans (d4.e7 _ e)) bT (GY.LL c) (λP' e j=>aR h (e.symm▸c) (a.hC j)) g)
theorem aq.mY{xs:am b0}(a:d.ed t k=ap (.dG (xs.hC .bn))):aq .In (.bn x) (.bs t k) d (xs.b6 x):=λA P s I z h S b j=>by
 refine aN b λtk l=>?_;clear b h;subst l;obtain rfl:z=_:=j.1;refine aO (S.dG a) λus n g r=>?_;obtain⟨c,e⟩:=nW (tk:=tk) rfl r;refine aC.bl S λE L k=>in_listAt (λy=>match y with | .bn i _=>i==x |_=>false) ⟨_,g,rfl,n,rfl⟩ (λy f=>?_) (ab am.any_toArray (ab e k));refine f_ (c y (am.mem_toArray.mp f)) λi t m=>?_;clear f k L E e c r g us S a;subst m;exact EqAt.int_int _ _ _ _
theorem vi(e:d.ed t k=ap (.dG [.bk,.bn y])){A:ec}{s:a6}{I:a9}{b c:ct}{E:a9->a6->Prop}{L:a9->a6->Prop}(S:St G.D P d s)(h0:EqAt A.in1 s .bk I b)(h1:∀tk,EqAt A.in1 s (.bn y tk) I c)(f:E (.gg (!(b ||c))) s):a8.ch (dd G.D.bZ G.D.w) A (H1 .NotIn I (.bs (P.al t k))) E L s:=by
 refine aO (S.dG e) λus n g r=>?_;obtain⟨_,_,rfl,rfl,_,_,rfl,⟨tk,rfl⟩,rfl⟩:=r;refine notIn_listAt (λy=>match y with | .bn i _=>c |_=>b) ⟨_,g,rfl,n,rfl⟩ (λy a=>?_) ?_
 ·rcases am.hD.mp (am.mem_toArray.mp a)with rfl |a
  ·exact h0
  ·rcases am.e0.mp a with rfl;exact h1 tk
 ·rw[am.any_toArray];show E (.gg (!(b ||(c ||false)))) s;rw[ct.or_false];exact f
theorem aq.Lc(a:d.ed t k=ap (.dG [.bk,.bn y])):aq .NotIn .bk (.bs t k) d false:=λA P s I z e S b c=>by
 obtain rfl:I=_:=b;obtain rfl:z=_:=c.1;exact aC.bl S λE L k=>vi a S (EqAt.mx _) (λtk=>EqAt.int_none _ _) k
theorem aq.Ld(e:d.ed t k=ap (.dG [.bk,.bn y])):aq .NotIn (.bn x) (.bs t k) d (!(y==x)):=λA P s I z f S a g=>by
 refine aN a λtk h=>?_;clear a f;subst h;obtain rfl:z=_:=g.1;exact aC.bl S λE L k=>vi (b:=false) (c:=y==x) e S (EqAt.none_int _ _) (λtk=>EqAt.int_int _ _ _ _) k
theorem aq.eqB:aq .Eq (.d3 b) (.d3 c) d (b==c):=λA P s I z f S a e=>by
 obtain⟨g,rfl⟩:=a;obtain⟨h,rfl⟩:=e;exact aC.bl S λE L k=>eq_bytes k
theorem aq.HH:aq .FT (.d3 b) (.d3 c) d (!(b==c)):=λA P s I z f S a e=>by
 obtain⟨g,rfl⟩:=a;obtain⟨h,rfl⟩:=e;exact aC.bl S λE L k=>ne_bytes k
theorem aq.Lg{a b:b0}(h1:d.ed t k=ap (.dG [.bn x,.bn y]))(h2:d.ed t' k'=ap (.dG [.bn a,.bn b])):aq .FT (.bs t k) (.bs t' k') d (!(x==a&&y==b)):=λA P s I z c S f g=>by
 obtain rfl:I=_:=f.1;obtain rfl:z=_:=g.1;refine aO (S.dG h1) λus h i q1=>aO (S.dG h2) λws l m q2=>?_;obtain⟨_,_,rfl,⟨a1,rfl⟩,_,_,rfl,⟨n,rfl⟩,rfl⟩:=q1;obtain⟨_,_,rfl,⟨o,rfl⟩,_,_,rfl,⟨p,rfl⟩,rfl⟩:=q2;have e:=RcNeAt.lists (A:=A) (s:=s) (e:=λj=>if j=0 then x==a else y==b) ⟨_,i,rfl,h,rfl⟩ ⟨_,m,rfl,l,rfl⟩ rfl c.lt (λj h1 h2=>by
  rcases j with _ |_ |j
  ·exact EqAt.int_int _ _ _ _
  ·exact EqAt.int_int _ _ _ _
  ·exact kk h1 (a5.to.ow (a5.le_add_left 2 j)))
 refine aC.bl S λE L k=>e _ _ _ _ ?_;show E (.gg (!(x==a&&(y==b&&true)))) s;rw[ct.and_true];exact k
theorem aA.erase{h:d4}:∀{l:am V} {us:am a9} (i:a5),aA P d h l us->aA P d h (l.F5 i) (us.F5 i):=by
 intro c
 induction c with
 |iv=>intro us i r;obtain rfl:us=[]:=r;fail"c"
 |d2 a l e=>
  intro us i r;refine dQ r λI us f g b=>?_;clear r;subst f;cases i with
  |zero=>exact b
  |Fy i=>exact eN I _ rfl g (e i b)
theorem tu.dG{i:a5}(a:d.ed t k=ap (.dG l))(hi:i<l.ah)(q:l.ah<=aQ):tu (.bs t k) (.bn i) d (d.fC t k (.dG (l.F5 i))):=λA P s I w p S b c E L e=>by
 obtain rfl:I=_:=b.1;refine aN c λtk f=>?_;clear c b;subst f;refine aO (S.dG a) λus n g r=>?_;have h:i<us.eb.hN:=a5.x3 hi (r.ah.trans am.lb.symm);have j:i<=aQ:=a5.bb (a5.l6 hi) q;have hf:l7.am.listFitsIndex (i:b0)=true:=ct.pn.ow ⟨hq (b0.bb (by decide) (b0.dv i)),hq (b0.fp (b0.sp.ow j) (by unfold aQ;decide))⟩;have hs:a8.K6 (i:b0) us.eb.hN=ap i:=by
  unfold a8.K6;dsimp only;rw[dx (b0.to.ow (b0.dv i)),hq (b0.dv i),hq (b0.hB.ow h)];rfl
 refine cl (a8.P.delItem_list g hf hs (St.put S (o:=.dG (l.F5 i)) a (iK (d4.nT.G0 ..)) ⟨_,d4.mv _ g rfl⟩ (λm=>⟨us.F5 i,if(us.eb.Hw i).hN==us.eb.hN then n else n+1,(d4.mv _ g rfl).trans ?_,(r.erase i).hC m⟩) e) (by rw[am.lb,←r.ah];exact a5.bb q av));simp[Do.mapSeq]
end
end Internal
end
section
namespace Internal
namespace RV
theorem ji:Slot "reversed" "__init__" "object.__init__" :=
 .of (It:= "object") (n:= "__init__") (by rw[f9,ek];kernel_rfl) (by decide+kernel) (by decide+kernel) (by decide+kernel)
  (by first |exact .u0 (by decide+kernel) |exact .wl (by decide+kernel)) (by rw[pq];kernel_rfl)
theorem slot_next:Slot "reversed" "__next__" "reversed.__next__" :=
 .of (It:= "reversed") (n:= "__next__") (by rw[f9,ek];kernel_rfl) (by decide+kernel) (by decide+kernel) (by decide+kernel)
  (by first |exact .u0 (by decide+kernel) |exact .wl (by decide+kernel)) (by rw[pq];kernel_rfl)
theorem o_:Slot "reversed" "__iter__" "reversed.__iter__" :=
 .of (It:= "reversed") (n:= "__iter__") (by rw[f9,ek];kernel_rfl) (by decide+kernel) (by decide+kernel) (by decide+kernel)
  (by first |exact .u0 (by decide+kernel) |exact .wl (by decide+kernel)) (by rw[pq];kernel_rfl)
theorem called:TypeCalled "reversed" "reversed.__new__" "object.__init__" :=
 ⟨by decide+kernel,F.create_reversed,(xK _ _ F.mro_reversed),F.made_reversed,F.LJ,F.sub_reversed_self,ji⟩
theorem Fg:r4 (.fX "bytes") "__reversed__" =h8 bk:=by rw[f9,ek];kernel_rfl
theorem dm:r4 (.fX "bytes") "__getitem__" =h8 (ap (.eu "bytes.__getitem__")):=by rw[f9,ek];kernel_rfl
theorem entry_next:Cm table "reversed.__next__" =ap l7.«reversed.__next__» :=AT (by kernel_rfl)
theorem uy:Cm table "reversed.__iter__" =ap l7.«dict_keyiterator.__iter__» :=
 entryFor_alias (id':= "dict_keyiterator.__iter__") (by rw[Ia];kernel_rfl) (by first |rfl |decide+kernel) (by decide+kernel) (by rw[Ia];kernel_rfl)
theorem It:Manifest.owners.eh (z8.ofList ['d','e','s','r','e','v','e','r'].E5)=ap Manifest.sig_reversed:=by kernel_rfl
theorem args_next(a:a9):D0 "reversed.__next__" ⟨[a],[]⟩:=by unfold D0;rw[zz (id:= "reversed.__next__") (n:=['_','_','t','x','e','n','_','_']) (o:=['d','e','s','r','e','v','e','r']) (by kernel_rfl) It];kernel_rfl
theorem xq(a:a9):D0 "reversed.__iter__" ⟨[a],[]⟩:=by unfold D0;rw[zz (id:= "reversed.__iter__") (n:=['_','_','r','e','t','i','_','_']) (o:=['d','e','s','r','e','v','e','r']) (by kernel_rfl) It];kernel_rfl
end RV
end Internal
end
section
namespace Tactic
section
variable{bZ:mS}{w:tq}{A:ec}{L:a9->a6->Prop}{s:a6}{b:am cy}{t:Tok}{it:e9}
abbrev xA(b:am cy)(t:Tok)(i:b0):Do:={mm:=.fX "reversed",hy:=.j3 #[.d3 b.eb t,.bn i 0]}
theorem BV:K3 (.fX "bytes") (.fX "dict")=h8 false:=by rw[pq];kernel_rfl
theorem BE{E:a9->a6->Prop}(e:b.ah<=1000000)(f:∀tk,E (.bs s.bh.kq.hN) {s with bh:=s.bh.o4 (xA b t ((b.ah:b0) - 1)),hO:=tk}):a8.ch (dd bZ w) A (ng (.fX "reversed") [.d3 b.eb t]) E L s:=by
 refine callType_codes (Q₁:=λed c=>c.Fv ed "reversed" /\E ed c) a4.RV.called (F.typeCall_reversed_1 _) F.entry_object_init ?_ λed c d=>?_
 ·apply a8.codeAny_of_tree;show a8.ch _ A.in1.in1 (do p3 "reversed.__new__" ⟨[.fX "reversed",.d3 b.eb t],[]⟩;J2 (.eu "reversed.__new__" ⟨[.fX "reversed",.d3 b.eb t],[]⟩)) _ _ s;refine a8.a7 (a8.gu (F.newCall_reversed_1 _) (a8.cp ⟨F2 F.LJ _,a8.codeAny_builtin F.entry_reversed_new ?_⟩));rw[ec.I1 F.LJ _];refine a8.a7 (a8.gu (newClass_reversed _) ?_);refine a8.a7 (a8.gu (a:=()) rfl ?_);refine a8.a7 (a8.gu (a:=()) rfl ?_);refine a8.a7 (a8.f3 (a8.W.uj _ _ _) a4.RV.Fg ?_);refine a8.a7 (a8.a7 (a8.Bc (b:=false) (a8.W.uj _ _ _) BV ?_));refine a8.a7 (a8.f3 (a8.W.uj _ _ _) a4.RV.dm ?_);refine a8.cp ?_;refine a8.a7 (a8.W.len_bytes (by rw[am.lb];exact a5.bb e (by decide)) ?_);refine a8.a7 (a8.gu (a:=ap (b.eb.hN:b0)) rfl ?_);refine a8.a7 (a8.wf (T:= "reversed") (hy:=.j3 #[.d3 b.eb t,.bn ((b.eb.hN:b0) - 1) 0]) ?_ (by size_fits));refine a8.cp ?_;exact⟨⟨_,d4.m8 _ rfl,rfl⟩,(am.lb (as:=b))▸f _⟩
 ·exact⟨d.1,F.args_object_init_2 ed _,object_init_meets a4.RV.called.init.eh a4.RV.called.made (by decide) bZ w A.in1 _ c ⟨d.1,rfl,d.2⟩⟩
theorem nF{i:b0}(h:s.bh.ck it=ap (xA b t i)):s.Fv (.bs it) "reversed" :=a4.aR _ h rfl
theorem BD{i:a5}{c:cy}{E:bS a9->a6->Prop}(h:s.bh.ck it=ap (xA b t i))(d:b.ah<=1000000)(a:b[i]?=ap c)(f:∀h' tk g,h'.ck it=ap (xA b t ((i:b0) - 1))->d4.nT it s.bh h'->E (ap (.bn c.fo tk)) {s with bh:=h',hO:=g}):a8.ch (dd bZ w) A (pyNext (.bs it)) E L s:=by
 haveI hi:i<b.ah:=(am.hv.mp a).1;haveI hd:(xA b t i).hy=.j3 #[.d3 b.eb t,.bn i 0]:=rfl;refine a8.a7 (a8.Js (a8.A7 (wQ:=h9.ofString "__next__") (nF h) a4.RV.slot_next (a8.E6 a4.RV.slot_next (nF h) a4.RV.entry_next ?_ (a4.RV.args_next _))));refine a8.a7 (a8.cp (a8.a7 (a8.ul (x:=.d3 b.eb t) h hd rfl (a8.a7 (a8.ul (x:=.bn i 0) h hd rfl ?_)))));dsimp only;rw[dx (b0.to.ow (b0.dv i))];refine a8.a7 (a8.f3 (a8.W.uj _ _ _) a4.RV.dm ?_);rw[dx (by simp)];refine a8.a7 (a8.a7 (a8.wpAny_fresh (a8.cp ?_)));refine a8.a7 (a8.Js (a8.W.getItem_bytes (a5.bb d (by decide)) (b0.dv i) (b0.hB.ow hi) ?_));dsimp only;refine a8.a7 (a8.ul (x:=.bn i 0) h hd rfl ?_);refine a8.a7 (a8.Ii h hd (by simp) ?_);have e:b.ww i c=c:=by rw[am.y2,a];rfl
 refine a8.cp ⟨_,rfl,a8.cp ?_⟩;have:=f (s.bh.G0 it (Do.mapFields (·.Da 1 (wv ((i:b0) - 1))))) (s.hO+1) (s.hO+1+1) (d4.mv _ h (by rfl)) (d4.nT.G0 ..);rw[b0.toNat_natCast,am.y2,a];exact this
theorem EY{i:b0}{E:bS a9->a6->Prop}(hh:A.z4=bk)(h:s.bh.ck it=ap (xA b t i))(hi:i<0)(c:∀h',d4.ExtBut it s.bh h'->E bk {s with bh:=h'}):a8.ch (dd bZ w) A (pyNext (.bs it)) E L s:=by haveI hd:(xA b t i).hy=.j3 #[.d3 b.eb t,.bn i 0]:=rfl;refine a8.a7 (a8.Js (a8.A7 (wQ:=h9.ofString "__next__") (nF h) a4.RV.slot_next (a8.E6 a4.RV.slot_next (nF h) a4.RV.entry_next ?_ (a4.RV.args_next _))));refine a8.a7 (a8.cp (a8.a7 (a8.ul (x:=.d3 b.eb t) h hd rfl (a8.a7 (a8.ul (x:=.bn i 0) h hd rfl ?_)))));dsimp only;rw[et hi];refine a8.a7 (a8.Lv ?_);refine a8.a7 (a8.a7 (a8.Ii h hd (by simp) ?_));have h1:(s.bh.G0 it (Do.mapFields (·.Da 1 (wv (-1))))).ck it=ap (xA b t (-1)):=d4.mv _ h (by rfl);refine a8.Ii (vs:= #[.d3 b.eb t,.bn (-1) 0]) h1 rfl (by simp) ?_;apply a8.a7;apply a8.a7;refine a8.a7 (a8.wf ?_ (by size_fits));refine a8.a7 (m:=firstArgMember _ _) (a8.gu (a:=a9.bk) (by first |rfl |(simp only[firstArgMember];rfl)) ?_);refine a8.wf ?_ (by size_fits);refine a8.a7 (a8.wpAny_handled ?_);rw[show A.in1.z4=bk from hh];refine a8.a7 (a8.cp (a8.wpAny_throw ?_));refine a8.a7 (a8.Bc (b:=true) ⟨_,d4.m8 _ rfl,rfl⟩ isSubtype_stop ?_);exact a8.cp (c _ ((((d4.nT.G0 ..).trans (d4.nT.G0 ..)).extBut.o4 _).o4 _))
theorem vm{i:b0}(h:s.bh.ck it=ap (xA b t i)){E:a9->a6->Prop}(k:E (.bs it) s):a8.ch (dd bZ w) A (pyIter (.bs it)) E L s:=by refine a8.wpAny_pyIter_slot (nF h) a4.RV.o_ (a8.E6 a4.RV.o_ (nF h) a4.RV.uy ?_ (a4.RV.xq _));exact a8.cp ⟨_,rfl,"reversed",_,nF h,a4.RV.slot_next.eh,k⟩
end
end Tactic
end
section
namespace Internal
section
variable{P:Ph}{d U:H}{s:a6}{A:ec}{it:e9}{l:am cy}{vs:am V}{lp:ct}{Q:a5}{x:X}
theorem E0{i:a5}{c:cy}(h:l.E5[i]?=ap c):l[l.ah - 1 - i]?=ap c/\i+1<=l.ah:=by have hi:i<l.E5.ah:=(am.hv.mp h).1;rw[am.length_reverse]at hi;rw[am.getElem?_reverse hi]at h;exact⟨h,hi⟩
theorem B_{tk:Tok}(k:A.z4=bk)(m:l.ah<=1000000):xu A false (bInts l.E5) (λZ=>Fw) it [it] (λi P d h=>h.ck it=ap (qI.xA l tk ((l.ah:b0) - 1 - i))/\P.k0 it=.j2/\G.D.hE.ck it=bk):=xu.rE (T:= "reversed") (by decide) (by decide) (by decide)
 (λi P d h z=>⟨_,z,rfl⟩)
 (λi P d s v a g S st E L q=>by
  replace a:=(am.getElem?_map)▸a;cases j:l.E5[i]? with
  |bk=>replace a:=j▸a;exact dE a
  |ap c=>
   replace a:=j▸a;obtain rfl:bI c=v:=bS.ap.zv a;obtain⟨h1,h2⟩:=E0 j;have e:((l.ah:b0) - 1 - i)=((l.ah - 1 - i:a5):b0):=by omega
   rw[e]at g;exact cl (qI.BD g m h1 λh' t u p hs=>q _ h' _ (yj hs) λx=>⟨⟨_,rfl⟩,p.trans (by rw[←e];congr 2;omega)⟩))
 (λi P d s a g S st E L q=>cl (qI.EY k g (by have:=kM a;unfold bInts at this;rw[am.fz,am.length_reverse]at this;omega) λh' hs=>q h' s.hO λb o n e=>hs b o n e))
 (λi P d h P' U h' ad z f X=>X.j1 it _ z f)
 (λi P d s r E L q=>cl (qI.vm r q))
 (λi P d h h' b z x nb=>x.at nb z)
def Mv(l:am cy)(h0:d4)(_:y5)(I:a9)(P:Ph)(_:H)(h:d4):Prop:=∃it tk,I=.bs it/\h0.ck it=bk/\h.ck it=ap (qI.xA l tk ((l.ah:b0) - 1))/\P.k0 it=.j2/\G.D.hE.ck it=bk
theorem IT.rev(j:EX lp Q vs d x (.ok (.d3 l) U))(i:l.ah<=1000000):IT lp Q vs d (.rev x) false (bInts l.E5) (λZ=>Fw) U:=λC y h A u P s a k E L f=>by
 refine ar (aj h) λp g q=>?_;clear h;subst g;haveI c1:=ai q;refine ar (cu c1) λJ n o=>?_;haveI t:fK c9 G.D.ev C [x] p.2.1=true:=n▸ct.pn.ow ⟨o,rfl⟩;haveI z:=(EL.d2 j EL.iv) C p.2.1 t;haveI y:aC G.D bk A (Mv l s.bh) P d s (.ok () U) (a8.pa (.Call p.1 p.2.1 [] p.2.2) u):=dY (ao q) a (λI e=>e) (bE (z.1 _ _) (cB rfl) (z.2 A u P s p.2.2 a) λus s' P' S' X r=>?_)
 ·refine y _ L λI s' P' S' v r=>?_;obtain⟨it,tk,rfl,w,be,B,D⟩:=r;exact cl (qI.vm be (f it s' P' [it] _ S' v (λb m=>am.e0.mp m▸w) (B_ k i) ⟨be.trans (by congr 2;exact(b0.sub_zero _).symm),B,D⟩))
 ·refine ar r.one λI g F=>?_;subst g;obtain⟨tk,rfl⟩:=F;refine λE L f=>cl (qI.BE i λH=>?_);have c:=S'.cW (ob:=qI.xA l tk ((l.ah:b0) - 1)) rfl (tk:=H);exact f _ _ P' c.1 c.2.1 ⟨_,tk,rfl,eW X bT,c.2.2.1,c.2.2.2.1,c.2.2.2.2⟩
end
end Internal
end
section
namespace Internal
open Tactic
theorem pb{c:KF}(h:tM c=true):∃x,c=.J6 x/\x.ah<=100:=by
 cases c with
 |J6 x=>exact⟨x,rfl,a5.ft h⟩
 |_=>exact dP h
def og(x y:h9)(k1 k2:a5)(q1 q2 a b c:Dx):fY:=.JoinedStr [.Constant (.J6 x) k1 q1,.FormattedValue (.r0 "writes" q2) (-1) bk a,.Constant (.J6 y) k2 b] c
theorem wZ{b:am xo}(h:uD b=true):∃p1 n p2 o A f B g C x y k1 k2 q1 q2 D E F,b=[.fY (.Call (.HX (.r0 "BoardError" p1) "__init__" n) [.r0 "self" p2,og x y k1 k2 q1 q2 D E F] [] o) A,.LA [.HX (.r0 "self" f) "writes" B] (.r0 "writes" g) C]/\(n.endLine==o.line)=true/\x.ah<=100/\y.ah<=100:=by
 refine aD λZP p=>?_;refine aO (cM h) λs1 s2 G h=>?_;subst G;refine ar (aj (ao h)) λe d h1=>?_;subst d;refine ar (aj h1) λc i h1=>ar (aj (ao h1)) λa k h2=>aO (cM (ai h1)) λx y H h3=>?_;refine ar (aj (ai h)) λt d h4=>?_;clear h;subst d;refine ar (cu (ao h4)) λt' m h5=>?_;refine ar (aj h5) λa' d h5=>?_;subst d;refine aN (gh (ao h2)) λp1 q1=>?_;refine aN (gh (ao h3)) λp2 d=>?_;subst d;refine ar (aj (ai h3)) λj d h6=>?_;subst d;refine ar (cU h6) λI q h6=>ar (aj (ao h6)) λku J h7=>aO (cM (ai h6)) λv w K s=>?_;refine ar (aj (ao s)) λkv L M=>ar (aj (ai s)) λkw N O=>?_;refine ar (pb h7) λP Q R=>ar (pb O) λS T U=>aN (gh M) λV W=>?_;refine aN (gh (ao h5)) λf X=>aN (gh (ai h4)) λg Y=>?_;apply p;clear p;haveI q2:=cx (ao (ai h2));haveI Z:=cx (ai h5);replace k:=q2▸q1▸k;have ej:j.1=[I,v,w]:=by
  obtain⟨l,z⟩:=j;cases l with
  |iv=>exact dE q
  |d2 u r=>
   obtain rfl:u=I:=bS.ap.zv q;exact b5 (u::·) K
 replace i:=H▸k▸i;replace m:=Z▸X▸m;exact ab i (ab m (ab Y (ab ej (ab J (ab L (ab N (ab Q (ab T (ab W ⟨p1,_,p2,_,_,f,_,g,_,P,S,_,_,_,V,_,_,_,rfl,ai (ai h2),R,U⟩)))))))))
theorem FG{a:b0}(h:a.natAbs.log2<1920):(h9.ofString (toString a)).ah<=1921:=by rw[a8.ofString_length];exact int_text_length_le (k:=1920) (by decide) h
theorem IH{bZ:mS}{w:tq}{A:ec}{L:a9->a6->Prop}{s:a6}{u:Cg}{x y:h9}{k1 k2:a5}{q1 q2 f g i:Dx}{a:b0}{t:Tok}{E:a9->a6->Prop}(j:x.ah<=100)(l:y.ah<=100)(ha:a.natAbs.log2<1920)
  (nm:∀(s':a6) (E:a9->a6->Prop) (L:a9->a6->Prop),s'.bh=s.bh->E (.bn a t) s'->a8.ch (dd bZ w) A (a8.pa (.r0 "writes" q2) u) E L s')
  (k:∀z I tk,E (.J6 z I) {s with hO:=tk}):a8.ch (dd bZ w) A (a8.pa (og x y k1 k2 q1 q2 f g i) u) E L s:=by
 delta og;have o:=FG ha;have c:(h9.empty++x).ah<=100:=by rw[strLen_append];exact a5.bb (a5.mZ (a5.pt _)) j
 have d:(h9.empty++x++h9.ofString (toString a)).ah<=2100:=by rw[strLen_append];exact a5.bb (a5.G5 c o) av
 have e:(h9.empty++x++h9.ofString (toString a)++y).ah<=2200:=by rw[strLen_append];exact a5.G5 d l
 have b:∀{n m:a5},n<=m->a5.ble m 5000=true->n<=F1:=λh q=>by rw[ut];exact a5.bb h (a5.bb (a5.ft q) av)
 refine wpAny_JoinedStr ?_;refine wpAny_Constant_str ⟨x,_,rfl,b c rfl,?_⟩;refine wpAny_FormattedValue_plain (nm _ _ _ rfl (wpAny_formatField_int ha ⟨_,_,rfl,b d rfl,?_⟩));refine wpAny_Constant_str ⟨y,_,rfl,b e rfl,b e rfl,k _ _ _⟩
structure Ky(fI C0 fB:e9)(o:Do)(fd:xF)(lV:am xo):Prop where
 LL:G.D.K.eh fI=ap o
 hy:o.hy=.func fd
 glob:fd.y0=hU
 FX:fd.closure=[]
 Ly:fd.r6=DQ
 b_:fd.lV=.stmts lV
 lines:uD lV=true
 J1:codeIn G.D.K fd.J1 fd.DN=true
 co:fd.jp.DH=false
 gen:fd.jp.DM=false
 s9:fd.jp.s9=.xL
 k1:fd.jp.em.eh ("self" :h9)=ap .local
 k2:fd.jp.em.eh ("writes" :h9)=ap .local
 k3:fd.jp.em.eh ("BoardError" :h9)=ap .sB
 ns:nsIn G.D.K hU "BoardError" =ap (ap (.bs C0))
 ga:specialIn G.D.K (.bs C0) "__getattribute__" =ap (ap (.eu "type.__getattribute__"))
 ty:typeIn G.D.K (.bs C0)=ap (.fX "type")
 rd:readsIn G.D.K C0 (.fX "type")=true
 fc:findCls G.D.K (.bs C0) (.fX "type") "__init__" =ap (.val (.bs fB))
 kp:Kr G.D.K (.bs fB)=true
 tb:∀(s:a6) (I v:a9),G.D.K.In s.bh->BindsTo s fd ⟨[I,v],[]⟩ [("self",I),("writes",v)]
section
variable{A:ec}{P:Ph}{d:H}{s:a6}{C fI C0 fB:e9}{cd:ro}{o oB:Do}{fd oO:xF}{lV du:am xo}
abbrev lQ{R:r3->a6->Prop}{e t:e9}{I:a9}:Prop:=∀(O:Ok G.D) (Y:cG G.D.K C fI cd) (Z:u7 fB oB oO du) (c:A.Lw<recursionLimit) (tg:∀b o,G.D.hE.ck b=ap o->s.bh.ck b=ap o) (d:s.bh.ck e=ap (gv C t)) (f:G.D.hE.ck e=bk) (g:∀h' tk a t',(∀b o,b≠e->s.bh.ck b=ap o->h'.ck b=ap o)->h'.ck e=ap {gv C t' with BT:=ap a}->s.bh.ck a=bk->h'.Ns1 a (λx=>if x= "reason" then ap I else bk)->R (.ok (.ret .bk)) {s with bh:=h',hO:=tk}),az (dd G.D.bZ G.D.w) A (.ng (.bs fB) ⟨[.bs e,I],[]⟩) R s
theorem Cc:∀{A s C fI fB cd oB oO du R e t I},@lQ A s C fI fB cd oB oO du R e t I:=by
 refine λ{A s C fI fB cd oB oO du R e t I}=>cK (q:=kC @lQ) ((?_:∀A s C fI fB cd oB oO du R e t I,@lQ A s C fI fB cd oB oO du R e t I) _ _ _ _ _ _ _ _ _ _ _ _ _) (A,s,C,fI,fB,cd,oB,oO,du,R,e,t,I);intro A s C fI fB cd oB oO du R e t I O Y Z l tg g m r;have c:G.D.K.In s.bh:=λa o e=>tg a o (O.dW a o e);refine rK O.top λp zm J K T=>?_;haveI v:=T.nolimit.Lx tg;refine rf l (c _ _ Z.LL) Z.hy Z.co Z.gen Z.b_ (codeRec_of c Z.J1) (cl (Z.tb _ _ _ c _ _ _ _ ?_));refine ab Z.FX ?_;refine cl (Ev Z.s9 (λx f=> .u0 ?_) λu d s1 x=>⟨v.Lx x.Ej.j1,qK ?_⟩)
 ·rcases am.hD.mp f with rfl |f
  ·exact Z.k1
  ·exact ab (am.e0.mp f) Z.k2
 ·have h:u.gX=s.bh.kq.hN:=by rw[d];rfl
  have i:u.jp=oO.jp:=by rw[d];rfl
  haveI j:∀n,u.n1 n=oO.jp.em.eh n:=λn=>by exact lG i rfl
  refine f_ x.Ej.mx λh1 tk w=>?_;subst w;haveI ns:=x.Ej.ns;haveI j1:=x.Ej.j1;have nd:(([("self",a9.bs e),("reason",I)]:am (h9×a9)).hC (·.1)).p9:=by
   show([("self" :h9),"reason"]).p9;decide
  refine zQ O Y Z (λb o e=>j1 b o (tg b o e)) c ⟨ns,j1,a5.mZ h.symm⟩ i (by exact ab d rfl) (by exact ab d rfl)
   (jc ((j _).trans Z.k1) nd (.sk _)) (jc ((j _).trans Z.k2) nd (.sy _ (.sk _))) (j1 _ _ g) (λz=>a5.q5 _ (a5.x3 (d4.JL g) (h.symm.trans z))) m λh2 y k B D E F H=>?_
  refine r h2 y k B (λb o hb q=>D b o hb (j1 b o q)) E ?_ H;cases q:s.bh.ck k with
  |bk=>rfl
  |ap o=>exact dE (F.symm.trans (j1 _ _ q))
theorem CI{fJ:e9}{u:Cg}{h0:d4}{m:h9->bS a9}{e t:e9}{n:b0}{c:Tok}{E:Flow->a6->Prop}{L:a9->a6->Prop}(O:Ok G.D)(Y:cG G.D.K C fI cd)(W:Ky fJ C0 fB o fd lV)(Z:u7 fB oB oO du)(ac:A.Lw<recursionLimit)(ha:n.natAbs.log2<1920)(GR:KT G.D.K C "writes" =ap bk)
  (tg:∀b o,G.D.hE.ck b=ap o->s.bh.ck b=ap o) (M:G.D.K.In h0) (d:Fr h0 u.gX s.bh m) (N:u.jp=fd.jp)
  (hg:u.y0=fd.y0) (Nw:u.r6=fd.r6) (m1:m "self" =ap (.bs e)) (Q:m "writes" =ap (.bn n c)) (R:s.bh.ck e=ap (gv C t)) (LK:u.gX≠e) (S:G.D.hE.ck e=bk)
  (hQ:∀h' tk h t',(∀b o,b≠e->s.bh.ck b=ap o->h'.ck b=ap o)->h'.ck e=ap {gv C t' with BT:=ap h}->E .next {s with bh:=h',hO:=tk}):
  ch (dd G.D.bZ G.D.w) A (a8.KE lV u) E L s:=by
 refine aD λZP U=>?_;obtain⟨p1,V,p2,i,p4,F,p6,p7,p8,x,y,c1,j,q1,q2,k,l,B,rfl,hp,l1,l2⟩:=wZ W.lines;have H:=N▸W.s9;have kd:∀n,u.n1 n=fd.jp.em.eh n:=λn=>by delta Cg.n1;exact ab N rfl
 have k1:=(kd _).trans W.k1;have k2:=(kd _).trans W.k2;haveI k3:=(kd _).trans W.k3;have X:G.D.K.In s.bh:=λa o e=>tg a o (O.dW a o e);refine rK O.top λp zm mg mb T=>?_;apply U;clear U;haveI J:=T.g.Lx tg;replace J:=hg.symm▸W.glob.symm▸J;have D:∀(x:h9) (v:a9) (pp:Dx) (s':a6) (E:a9->a6->Prop) (L:a9->a6->Prop),(x==("__debug__" :h9))=false->u.n1 x=ap .local->s'.bh.Ns u.gX m->m x=ap v->E v s'->a8.ch (dd G.D.bZ G.D.w) A (a8.pa (.r0 x pp) u) E L s':=
  λx v pp s' E L hd hl ns hm q=>a8.wpAny_Name (a8.DT H hl ns hm q) hd
 apply aa;rw[exec_Expr u _ p4 (by delta interactive;exact H▸rfl) (bK rfl)];refine aa (ax (aa ?_));show ch _ A (a8.pa (.r0 "BoardError" p1) u>>=λg=>kK V.atName>>=λ_=>methodCall (.r0 "BoardError" p1) "__init__" V i u g 2 (Fu i (tC [.r0 "self" p2,og x y c1 j q1 q2 k l B] u)) []) _ _ s;refine aa (cl (Calls.DV H k3 (Calls.loadGlobal_global J (mg_of O.dW T.g W.ns) (aa (ax ?_))) (by decide)));rw[dV (show(Fu i (tC [.r0 "self" p2,og x y c1 j q1 q2 k l B] u)).any (·.1)=false from rfl) av hp];refine aa (ak (cl (method_of_cls d M W.ga (cls_val d M W.ty W.rd W.fc rfl ?_))));apply fW (P:=λhh=>G.D.K.In hh) (show(Fu i (tC [.r0 "self" p2,og x y c1 j q1 q2 k l B] u)).any (·.1)=false from rfl) (λhh x=>keeps_K W.kp hh x);show ch _ A (a8.pa (.r0 "self" p2) u>>=λw=>a8.ff [w] (a8.pa (og x y c1 j q1 q2 k l B) u>>=λw=>a8.ff [w] (h8 [])>>=λr=>h8 ([w] ++r))>>=λr=>h8 ([w] ++r)) _ _ {s with hO:=s.hO+1};refine aa (cl (D "self" _ p2 _ _ _ (by decide) k1 d.ns m1 (aa (ak (aa (cl (IH l1 l2 ha (λs' E L hh q=>D "writes" _ q2 _ _ _ (by decide) k2 (hh▸d.ns) Q q) λz I tk=>aa (ak (af (af (af ⟨X,aT (Cc O Y Z ac tg R S λh1 PJ h t1 K wN M7 nx=>cl (wpAny_dropValue ?_))⟩)))))))))));haveI ne:e≠h:=λz=>dE (M7.symm.trans (z▸R));haveI X1:G.D.K.In h1:=λa o q=>K a o (λz=>dE (S.symm.trans (z▸O.dW _ _ q))) (X a o q);haveI Ff:=Ns.vT d.ns λo ho=>⟨o.vT,K _ _ LK ho⟩;show ch _ A (a8.exec (.LA [.HX (.r0 "self" F) "writes" p6] (.r0 "writes" p7) p8) u>>=λf=>match f with | .next=>a8.KE [] u |f=>h8 f) E L _;rw[qQ (bK rfl) rfl];refine aa (aa (ax (aa (cl (D "writes" _ p7 _ _ _ (by decide) k2 Ff Q (aa ?_))))));show ch _ A (a8.ff [.bn n c] (a8.pa (.r0 "self" F) u)>>=λg=>kK p6.atName>>=λ_=>a8.ff [.bn n c,g] (setAttr g "writes" (.bn n c))>>=λ_=>GE [.bn n c,g] []) _ _ _;exact aa (ak (cl (D "self" _ F _ _ _ (by decide) k1 Ff m1 (aa (ax (aa (ak (cl (qI.zO Y X1 GR wN nx (Within.d2 "reason" _ Within.iv) av λh2 tk sb=>cl (LC (af (af (hQ h2 tk h t1 (λb o hb q=>(sb.2 b (λz=>dE (M7.symm.trans (z▸q)))).trans (K b o hb q)) ((sb.2 e ne).trans wN))))))))))))))
end
section
variable{A:ec}{P:Ph}{d:H}{s:a6}{C fI C0 fB:e9}{cd:ro}{o oB:Do}{fd oO:xF}{lV du:am xo}
abbrev lY{lp:ct}{Q:a5}{n:b0}{a:Tok}{E:a9->a6->Prop}{L:a9->a6->Prop}:Prop:=∀(O:Ok G.D) (S:St G.D P d s) (ac:Ac lp A P s.bh Q) (Y:cG G.D.K C fI cd) (W:Ky fI C0 fB o fd lV) (Z:u7 fB oB oO du) (ha:n.natAbs.log2<1920) (f:KT G.D.K C "writes" =ap bk) (g:∀h' tk e c t',(∀b o,s.bh.ck b=ap o->h'.ck b=ap o)->s.bh.ck e=bk->h'.ck e=ap {gv C t' with BT:=ap c}->E (.bs e) {s with bh:=h',hO:=tk}),ch (dd G.D.bZ G.D.w) A (a8.ng (.bs C) [.bn n a] []) E L s
theorem CH:∀{A P d s C fI C0 fB cd o oB fd oO lV du lp Q n c E L},@lY A P d s C fI C0 fB cd o oB fd oO lV du lp Q n c E L:=by
 refine λ{A P d s C fI C0 fB cd o oB fd oO lV du lp Q n c E L}=>cK (q:=Dv @lY) ((?_:∀A P d s C fI C0 fB cd o oB fd oO lV du lp Q n c E L,@lY A P d s C fI C0 fB cd o oB fd oO lV du lp Q n c E L) _ _ _ _ _ _ _ _ _ _ _ _ _ _ _ _ _ _ _ _ _) (A,P,d,s,C,fI,C0,fB,cd,o,oB,fd,oO,lV,du,lp,Q,n,c,E,L);intro A P d s C fI C0 fB cd o oB fd oO lV du lp Q n c E L O S ac Y W Z ha m r;have X:=S.dW O;have hM:∀b,s.bh.kq.hN<=b->s.bh.ck b=bk:=λb q=>a8.d4.Cn q;have kp:∀b o,s.bh.ck b=ap o->(j_ s C (.bn n c)).bh.ck b=ap o:=λb o e=>d4.e7 _ (d4.e7 _ e);haveI sz:(s.bh.o4 (xX [.bn n c])).kq.hN=s.bh.kq.hN+1:=d4.size_push _ _;haveI f:(j_ s C (.bn n c)).bh.ck (s.bh.kq.hN+1)=ap (gv C s.bh.kq.hN):=sz▸d4.m8 _ rfl;haveI t:(j_ s C (.bn n c)).bh.kq.hN=s.bh.kq.hN+2:=(d4.size_push _ _).trans (b5 a5.Fy sz);have g:G.D.K.In (j_ s C (.bn n c)).bh:=λa o e=>kp a o (X a o e);have i:∀b o,G.D.hE.ck b=ap o->(j_ s C (.bn n c)).bh.ck b=ap o:=λb o e=>kp b o (S.h.tg b o e).1;refine rK O.top λp zm I J T=>?_;haveI v:=T.nolimit.Lx i;refine aT (FP Y X (rf (a5.fp (a5.bb (a5.f0 _ (2*Q)) (iB.make ac (C:=C) (s8:=[.bn n c])).Lw) av) (g _ _ W.LL) W.hy W.co W.gen W.b_ (codeRec_of g W.J1) (cl (W.tb _ _ _ g _ _ _ _ ?_))));refine ab W.FX ?_;refine cl (Ev W.s9 (λx f=> .u0 ?_) λu h s1 x=>⟨v.Lx x.Ej.j1,qK ?_⟩)
 ·rcases am.hD.mp f with rfl |f
  ·exact W.k1
  ·exact ab (am.e0.mp f) W.k2
 ·have j:u.gX=(j_ s C (.bn n c)).bh.kq.hN:=by rw[h];rfl
  have k:u.jp=fd.jp:=by rw[h];rfl
  haveI l:∀n,u.n1 n=fd.jp.em.eh n:=λn=>by exact lG k rfl
  refine f_ x.Ej.mx λh1 tk w=>?_;subst w;haveI ns:=x.Ej.ns;haveI j1:=x.Ej.j1;have nd:(([("self",a9.bs (s.bh.kq.hN+1)),("writes",.bn n c)]:am (h9×a9)).hC (·.1)).p9:=by
   show([("self" :h9),"writes"]).p9;decide
  refine CI O Y W Z ?_ ha m (λb o e=>j1 b o (i b o e)) g ⟨ns,j1,a5.mZ j.symm⟩ k (by exact ab h rfl) (by exact ab h rfl)
   (jc ((l _).trans W.k1) nd (.sk _)) (jc ((l _).trans W.k2) nd (.sy _ (.sk _))) (j1 _ _ f) (λz=>by replace z:=t▸j▸z;exact a5.succ_ne_self _ z) (S.eS (hM _ (a5.IO _))).2 λh2 y B D F H=>?_
  ·exact a5.fp (a5.ic (a5.bb (a5.f0 _ (2*Q)) (iB.make ac (C:=C) (s8:=[.bn n c])).Lw)) av
  refine⟨rfl,r h2 y _ B D (λb o e=>F b o (λz=>?_) (j1 b o (kp b o e))) (hM _ (a5.IO _)) H⟩;replace e:=(hM _ (a5.IO _))▸z▸e;exact dE e
abbrev uC{T:Prop}:Prop:=∀(h:Ee G.D.K fI C0 fB=true) (a:∀o fd b,Ky fI C0 fB o fd b->T),T
theorem L7:∀{fI C0 fB T},@uC fI C0 fB T:=by
 refine λ{fI C0 fB T}=>cK (q:=EG @uC) ((?_:∀fI C0 fB T,@uC fI C0 fB T) _ _ _ _) (fI,C0,fB,T);intro fI C0 fB T h n;refine ar (cU h) λo p h=>ar (aj h) λfd r h=>?_;haveI h1:=ai h;haveI h2:=ai h1;haveI h3:=ai h2;haveI h4:=ai h3;haveI h5:=ai h4;haveI h6:=ai h5;haveI h7:=ai h6;haveI a:=ai h7;haveI c:=ai a;haveI d:=ai c;haveI f:=ai d;haveI g:=ai f;haveI i:=ai g;have j:=ai i;haveI k:=ai j;haveI l:=ai k;refine ar (aj (ai l)) λb hb m=>ar (aj (ai m)) λq t u=>ar (qX (ao l)) λB w x=>?_;haveI fc:findCls G.D.K (.bs C0) (.fX "type") "__init__" =ap (.val (.bs fB)):=by
  have y:=ao j;clear x w B u t q m hb b l k j i g f d c a h7 h6 h5 h4 h3 h2 h1 h r fd p n;cases e:findCls G.D.K (.bs C0) (.fX "type") "__init__" with
  |bk=>replace y:=e▸y;exact dP y
  |ap z=>
   replace y:=e▸y;clear e h o;cases z with
   |val v=>exact ab (cx y) rfl
   |LL=>exact dP y
 refine n o fd b ⟨p,r,cx (ao h),am.sn.mp (ao h1),cx (ao h2),hb,ao m,ao h3,mR (ao h4),mR (ao h5),cx (ao h6),cx (ao h7),cx (ao a),cx (ao c),cx (ao d),cx (ao f),cx (ao g),ao i,fc,ao k,λs I v dW=>?_⟩;haveI z:=lq (db:=[I,v]) t (cx u) (by decide+kernel) (a5.i3 2) (.u0 rfl) (a5.ft w) λM A E L q=>x s dW M A E L q;rw[show [I,v].ah=[("self" :h9),"writes"].ah from rfl,a5.ur,am.Ke]at z;exact z
end
section
variable{lp:ct}{Q:a5}{C:Cx}{A:ec}{u:Cg}{vs:am V}{P:Ph}{d U:H}{s:a6}{x:X}{v:V}{nf c:a5}{fI C0 fB:e9}{cd:ro}{o oB:Do}{fd oO:xF}{lV du:am xo}{n:b0}
theorem SS.rc(Y:cG G.D.K (G.D.mm c) fI cd)(W:Ky fI C0 fB o fd lV)(Z:u7 fB oB oO du)(ha:n.natAbs.log2<1920)(H:KT G.D.K (G.D.mm c) "writes" =ap bk)(J:EX true Q vs d x (.ok (.bn n) U)):SS true Q vs d (.rs c x) (.ex c) vs U:=λC nf e h A u P s a=>by
 refine xM (Ja h) λf y g bv K m M N=>?_;clear h;subst K;haveI hh:=a.ac.hd rfl;refine aO (j5 m) λid p O hg=>?_;clear m;subst O;haveI R:=G.ID a.hS.lv id _ (um hg).1;show ba A nf C.sl u P d s _ _ _ (kK bv>>=λ_=>raiseStmt u (ap (a8.pa (.Call (.r0 id p) [y] [] g) u>>=λv=>kK bv>>=λ_=>h8 v)) bk);refine ba.aU λE L k k'=>yt Y hh (aa (aw ?_ (λv ac q=>aa (ax (af q))) λ_ _ x=>x));show ch _ A (a8.pa (.r0 id p) u>>=λf=>callWith g f [] (Fu g (tC [y] u)) []) _ L s;refine aa (kR a.mJ hg λI S=>?_);clear k hg p bv;obtain rfl:I=.bs (G.D.mm c):=S;refine ab (d5 M) ?_;apply fW rfl (λhh x=>keeps_K R.2.2.2 hh x);show ch _ A (a8.pa y u>>=λw=>a8.ff [w] (h8 [])>>=λr=>h8 ([w] ++r)) _ _ s;refine aa (J C y N A u P s a.mJ _ L λI s' P' S' i r=>?_);obtain⟨tn,rfl⟩:=r;refine aa (ak (af (af ⟨S'.dW (G.ok S'.lv),CH (G.ok S'.lv) S' (a.ac.mr i) Y W Z ha H λh' tk j T t' j1 ne t=>?_⟩)));haveI B:=S'.h.hA j1;haveI D:=S'.eS ne;haveI l:St G.D P' U {s' with bh:=h',hO:=tk}:=⟨B.1,S'.r⟩;haveI F:=i.trans B.2;exact⟨l.dW (G.ok l.lv),j,t',T,rfl,t,k' c _ _ P' rfl (.wl (.u0 ⟨j,_,_,_,rfl,⟨t,rfl,rfl,rfl,rfl,D.2,λb o q w z=>(i.kG b o q).ef λV X=>(oP ((z▸X:s'.bh.ck j=ap V).symm.trans ne)),l,F.weak,D.1⟩⟩)) (a.F.kx F)⟩
end
section
variable{A:ec}{P P' P0:Ph}{d U ay dw:H}{C:Cx}{u:Cg}{vs aL cb:am V}{nf Q:a5}{lp:ct}{ea T:e9}{c:a5}{s s':a6}{e:a9}{b:am S}{cd:ro}{fI:e9}{x:X}{v:V}
theorem CN{C:Cx}{b_:am xo}(h:w7 c9 G.D.ev C [.rt x] b_=true):cD c9 G.D.ev C nf [.rt x] b_=true:=by
 cases b_ with
 |iv=>exact dP h
 |d2 e r=>exact h
abbrev SS.ES:Prop:=∀(Y:cG G.D.K (G.D.mm c) fI cd) (hb:SB lp Q vs d b (.ex c) aL U) (a:EX false Q aL U x (.ok v ay)),SS lp Q vs d (.tr b c [.rt x]) (.rt v) aL ay
theorem SS.th:∀{d U ay vs aL Q lp c b cd fI x v},@SS.ES d U ay vs aL Q lp c b cd fI x v:=by
 refine λ{d U ay vs aL Q lp c b cd fI x v}=>cK (q:=kC @SS.ES) ((?_:∀d U ay vs aL Q lp c b cd fI x v,@SS.ES d U ay vs aL Q lp c b cd fI x v) _ _ _ _ _ _ _ _ _ _ _ _ _) (d,U,ay,vs,aL,Q,lp,c,b,cd,fI,x,v);intro d U ay vs aL Q lp c b cd fI x v Y hb J;exact λC nf e h A u P s a=>by
  refine aD λK i=>?_;obtain⟨b',t,b_,M,bv,rfl,c1,N,c3,O⟩:=Eg h;refine aN a.top λl tl=>?_;apply i;clear i;refine ba.aU λE L k k'=>xY (hb C nf b' c1 A u P s a _ _ (λf s' P' _ _ _ z=>z.ef) λc0 e s' P' p z r=>?_);clear c1 h hb;obtain rfl:c=c0:=(Fl.HD p λq=>q:c=c0);refine Ah a.ac tl r z λea B R eq j w=>?_;clear r z p s' bv b';subst eq;refine aD λK i=>?_;obtain⟨m,T,y,ab⟩:=j.Ga tl;obtain⟨oe,ws,a0,oT,ts,S,V,t3,t4,t5,t6,t7,t8,t9,tK,KU⟩:=id y.x;apply i;clear i;have D:=a.next m j.ext w;refine aa (ak (Bp Y Y Y.y6 N D.mJ S V (aa (af (aa (ak (vn nofun (mw ?_))))))));show ch _ _ (kK M>>=λ_=>setFlight (.bs ea) bk>>=λ_=>a8.KE b_ u) _ _ _;refine aa (ax (aa (pC y λh5 j1 P9 g=>?_)));haveI g:=g rfl;haveI F:=m.h.hA (λb o e=>(g b).trans e);refine(SB.stop (SS.rt J) (iD Fl.b4)) C nf b_ (CN O) (A.mark (ap (.bs ea))) u P' {R with bh:=h5} ⟨⟨F.1,m.r⟩,w.up (ny g),a.k,D.ac.marked.up (ny g),l,tl⟩ _ _ (λf G H W X Z n=>?_) λc e G H z=>bf Fl.b4 z rfl;obtain⟨I,rfl,n⟩:=n;show ch _ A (h8 (Flow.ret I)) _ _ _;exact af (k (.ret I) G H W ((j.ext.trans F.2.weak).trans X) Z ⟨I,rfl,n⟩)
end
@[elab_as_elim]theorem HM{p:a5->Prop}{i:a5}(h:i<2)(h0:p 0)(h1:p 1):p i:=(a5.lt_or_eq_of_le (a5.F6 h)).ef (λh=>a5.eq_zero_of_le_zero (a5.F6 h)▸h0) λe=>e▸h1
@[elab_as_elim]theorem Lm{p:a5->Prop}{i:a5}(h:i<3)(h0:p 0)(h1:p 1)(h2:p 2):p i:=(a5.lt_or_eq_of_le (a5.F6 h)).ef (λh=>HM h h0 h1) λe=>e▸h2
theorem lim{a:a5}(h:a<=1000000):a<=aQ:=h
theorem Li{a b c:a5}(h:a<b):a≠b+c:=a5.sK (a5.ew h (a5.f0 b c))
def sC(s:h9):V:=.J6 s.cps.q6
section
variable{f c t a:a5}{F:Fn}{lp:ct}{Q:a5}{vs ws aL:am V}{d U ay:H}{fl:Fl}{x:X}{v:V}{r r':R V}{st:S}{bd hs:am S}
theorem Hu(h:((eA.eh t).ww []).b6 a=true):(G.D.H4 t).b6 a=true:=by rw[G.uA];exact h
theorem G.lam{cA:e9}{cq:h9}:Dj G.D (.bs cA) cq:=trivial
theorem CA.lv(h:G.D.lv->CA lp Q f ws d r):CA lp Q f ws d r:=⟨λA P s us S=>(h S.lv).go A P s us S⟩
theorem SS.lv(h:G.D.lv->SS lp Q vs d st fl aL U):SS lp Q vs d st fl aL U:=λC nf e q A u P s a=>h a.hS.lv C nf e q A u P s a
theorem EU(q:Kp.eh f=ap F)(ha:ws.ah=F.zs)(hs:SB lp Q (ws++am.f7 (F.sl.ah - F.zs) .i1) d F.lV fl aL U)(hf:fl≠ .br):CA lp (Q+1) f ws d (yo fl U):=
 CA.lv λl=>DY (am.nw.mp (ao (ai (ai (ai (ai (G.tB l)))))) _ (bU q)) G.lam λo fd b Y ER a Z=>CA.of Y (ha.trans ER.symm) (λs db P d dW r=>aR db (a s db dW (r.ah.symm.trans ha)) r) hs hf
theorem DC(q:Kp.eh f=ap F)(ha:ws.ah+F.dflt.ah=F.zs)(hs:SB lp Q (ws++F.dflt.hC tI++am.f7 (F.sl.ah - F.zs) .i1) d F.lV fl aL U)(hf:fl≠ .br):CA lp (Q+1) f ws d (yo fl U):=
 CA.lv λl=>DY (am.nw.mp (ao (ai (ai (ai (ai (G.tB l)))))) _ (bU q)) G.lam λo fd b Y ER Z a=>CA.of Y (by apply(am.ep).trans;rw[am.fz,ha];exact ab ER rfl) (a ha) hs hf
theorem G.exc(l:G.D.lv):∃cd,cG G.D.K (G.D.mm 5) (nY 2) cd:=(FO (ao (ai (ai (ai (ai (ai (G.tB l)))))))).DO λZ h=>h.1
theorem KR{n:b0}(ha:n.natAbs.log2<1920)(a:EX true Q vs d x (.ok (.bn n) U)):SS true Q vs d (.rs 5 x) (.ex 5) vs U:=SS.lv λl=>aN (G.exc l) λcd Y=>L7 (ao (ai (ai (ai (ai (ai (ai (ai (ai (G.tB l)))))))))) λo fd b W=>IL (ao (ai (ai (ai (ai (ai (ai (ai (G.tB l))))))))) λo fd b Z=>SS.rc Y W Z ha (cx (ao (ai (ai (ai (ai (ai (ai (G.tB l))))))))) a
theorem KQ(h:SB lp Q vs d bd (.ex 5) aL U)(a:EX false Q aL U x (.ok v ay)):SS lp Q vs d (.tr bd 5 [.rt x]) (.rt v) aL ay:=SS.lv λl=>aN (G.exc l) λcd Y=>SS.th Y h a
end
section
variable{p:Prop} [Decidable p]{x y:b0}
theorem dT(h:p):decide p=true:=hq h
theorem dF(h:¬p):decide p=false:=ia h
theorem J0(h:p):(!decide p)=false:=by exact ab (hq h) rfl
theorem eT(h:x=y):(x==y)=true:=wn.ow h
theorem eF(h:x≠y):(x==y)=false:=ki.ow h
theorem GU(h:x=y):(!(x==y))=false:=by exact ab (eT h) rfl
end
def V.Lp(v:V):ct:=v.b4==0
section
variable{d:H}{t k:a5}
theorem mx{o:O}:(d.fC t k o).ed t k=ap o:=et ⟨rfl,rfl⟩
theorem CA.Ob{lp:ct}{ws:am V}{r:R V}{n m f:a5}(h:CA lp n f ws d r)(le:n<=m):CA lp m f ws d r:=⟨λA P s us S ac=>h.go A P s us S ⟨ac.un,a5.bb (a5.kQ (a5.qy 2 le) _) ac.Lw,a5.bb (a5.kQ (a5.qy 40 le) _) ac.FD,ac.hd,ac.gd⟩⟩
theorem jA{i:b0}(h: -1000000000<=i)(h':i<=1000000000):aP i:=⟨b0.ew (by decide) h,by exact b0.fp (by assumption) (by decide)⟩
theorem bF{o a:O}:(d.fC t k o).fC t k a=d.fC t k a:=by
 delta H.fC
 congr 1
 funext t' k'
 by_cases h:t'=t/\k'=k
 ·exact((et h)).trans (ab (et h) rfl)
 ·exact((dx h)).trans (ab (dx h) (dx h))
theorem qr{o a:O}:(d.hM t o).fC t (d.gz t) a=d.hM t a:=by
 delta H.fC H.hM
 congr 1
 funext t' k'
 by_cases h:t'=t/\k'=d.gz t
 ·exact((et h)).trans (ab (et h) rfl)
 ·exact((dx h)).trans (ab (dx h) (dx h))
end
namespace K
section
variable{lp:ct}{Q:a5}{C:Cx}{A:ec}{u:Cg}{vs:am V}{P P':Ph}{d U ay:H}{s s':a6}{x y:X}{v w:V}{r:R V}{b:ct}
def wB:O->a5->bS V
 | .qD fs,a=>nX fs a
 |_,_=>bk
def sd:O->a5->V->O
 | .qD fs,a,v=> .qD (oY fs a v)
 |o,_,_=>o
def E7:O->a5
 | .qD fs=>fs.ah
 |_=>200
def BL:O->a5->a5->bS a5
 | .qD _,t,f8=>vE.eh (t,f8)
 |_,_,_=>bk
theorem EX.ev{t k n:a5}{ob:O}(b:EX lp Q vs d x (.ok (.bs t k) U))(c:U.ed t k=ap ob)(a:wB ob n=ap v):EX lp Q vs d (.a x n) (.ok v U):=by
 cases ob with
 |qD fs=>exact a4.EX.ev b c a
 |_=>exact dE a
end
section
variable{lp:ct}{Q:a5}{C:Cx}{A:ec}{u:Cg}{vs aL p_:am V}{P P':Ph}{d U ay ie:H}{s s':a6}{x y o i:X}{t:T}{v w I:V}{b:ct}{nf n j:a5}{fl:Fl}{st:S}{ss:am S}{k c:a5}
theorem TG.ev{ob:O}(b:EX lp Q vs d x (.ok (.bs n k) U))(c:U.ed n k=ap ob)(ha:((eA.eh n).ww []).b6 j=true)(a:E7 ob<200):TG lp Q vs d (.a x j) v vs (U.fC n k (sd ob j v)):=by
 cases ob with
 |qD fs=>exact a4.TG.ev b c (Hu ha) a
 |_=>exact kk a (a5.q5 _)
theorem SS.je{b:x0}{ob a:O}{p q z:b0}(f:EX lp Q vs d o (.ok (.bs n k) U))(h1:U.ed n k=ap ob)(c:wB ob j=ap (.bn p))(g:EX lp Q vs U x (.ok (.bn q) ay))(h:fG b p q z)(h2:ay.ed n k=ap a)(ha:((eA.eh n).ww []).b6 j=true)(e:E7 a<200):SS lp Q vs d (.je o j b x) .nx vs (ay.fC n k (sd a j (.bn z))):=by
 cases ob with
 |qD fs=>
  cases a with
  |qD i=>exact a4.SS.je f h1 c g h h2 (Hu ha) e
  |_=>exact kk e (a5.q5 _)
 |_=>exact dE c
end
section
variable{lp:ct}{Q:a5}{vs aL ws:am V}{d U ay:H}{x y:X}{v w I:V}{r:R V}{b:ct}{es:am X}{t k f8 eo:a5}{fs:am (a5×V)}{ok:H->Prop}{oa:a5}{el:X}{cs:am X}{l3 EQ:am V}
theorem EX.and(c:EX lp Q vs d x (.ok (.gg b) U))(a:if b then EX lp Q vs U y r else r=.ok (.gg false) U):EX lp Q vs d (.bo true [x,y]) r:=a4.EX.and c (by cases b with |true=>exact a |false=>exact a)
theorem xv{i:a5}(b:vs[i]?=ap v)(a:v.Lp=false):EX lp Q vs d (.v i) (.ok v d):=EX.var b λe=>by replace a:=e▸a;exact ct.HD a
theorem xm{ob:O}(b:EX lp Q vs d x (.ok (.bs t k) U))(c:U.ed t k=ap ob)(a:BL ob t f8=ap eo)(e:EL lp Q vs U es (.ok ws ay))(f:CA lp Q eo (.bs t k::ws) ay r):EX lp Q vs d (.m x f8 es) r:=by
 cases ob with
 |qD fs=>exact a4.EX.Ll b c a e f
 |_=>exact dE a
theorem xk(a:EL lp Q vs d es (.ok ws U))(hi:sr.eh t=ap eo)(b:CA lp Q eo (.bs t (U.gz t)::ws) (U.hM t (.qD [])) (.ok .bk ay)):EX lp Q vs d (.k t es) (.ok (.bs t (U.gz t)) ay):=a4.EX.make a hi b
theorem _root_.a4.bH.iv(h:ok d):bH Q ok oa el cs vs [] d [] d:=ix h rfl rfl
theorem _root_.a4.bH.m0(h:ok d)(a:EA true Q true (vs.fC oa v) d cs (.ok true U))(b:EX true Q (vs.fC oa v) U el (.ok w ay)){ie:H}(c:bH Q ok oa el cs vs l3 ay EQ ie):bH Q ok oa el cs vs (v::l3) d (w::EQ) ie:=⟨h,true,U,a,.wl ⟨rfl,w,ay,EQ,b,c,rfl⟩⟩
theorem _root_.a4.bH.skip(h:ok d)(a:EA true Q true (vs.fC oa v) d cs (.ok false U))(b:bH Q ok oa el cs vs l3 U EQ ay):bH Q ok oa el cs vs (v::l3) d EQ ay:=⟨h,false,U,a,.u0 ⟨rfl,b⟩⟩
end
section
variable{lp:ct}{Q:a5}{vs aL ws:am V}{d U ay:H}{x:X}{v w:V}{r:R V}{b:ct}{es:am X}{ta fb:am S}{fl:Fl}{t k f8 eo:a5}{fs:am (a5×V)}
theorem xi{i:b0}:EX lp Q vs d (.c (.bn i)) (.ok (.bn i) d):=EX.const (iD V.b4)
theorem xb{b:ct}:EX lp Q vs d (.c (.gg b)) (.ok (.gg b) d):=EX.const (iD V.b4)
theorem xn:EX lp Q vs d (.c .bk) (.ok .bk d):=EX.const (iD V.b4)
theorem xs{s:h9}:EX lp Q vs d (.c (.J6 s)) (.ok (.J6 s.cps.q6) d):=EX.const (iD V.b4)
theorem xy{s:am cy}:EX lp Q vs d (.c (.d3 s)) (.ok (.d3 s) d):=EX.const (iD V.b4)
theorem gi{i:b0}:EX lp Q vs d (.g (.bn i)) (.ok (.bn i) d):=EX.glob
theorem gs{s:h9}:EX lp Q vs d (.g (.J6 s)) (.ok (.J6 s.cps.q6) d):=EX.glob
theorem _root_.a4.SS.gV(a:ET lp Q vs d x (.ok b U))(e:b=true)(hb:SB lp Q vs U ta fl aL ay):SS lp Q vs d (.xD x ta fb) fl aL ay:=SS.xD (e▸a) hb
theorem _root_.a4.SS.bu(a:ET lp Q vs d x (.ok b U))(e:b=false)(hb:SB lp Q vs U fb fl aL ay):SS lp Q vs d (.xD x ta fb) fl aL ay:=SS.xD (e▸a) hb
theorem _root_.a4.EX.gV{y z:X}(a:ET lp Q vs d x (.ok b U))(e:b=true)(c:EX lp Q vs U y r):EX lp Q vs d (.qC x y z) r:=EX.qC (e▸a) c
theorem _root_.a4.EX.bu{y z:X}(a:ET lp Q vs d x (.ok b U))(e:b=false)(c:EX lp Q vs U z r):EX lp Q vs d (.qC x y z) r:=EX.qC (e▸a) c
theorem _root_.a4.EX.Gw{y:X}(a:EX lp Q vs d x (.ok (.gg b) U))(e:b=true)(c:EX lp Q vs U y r):EX lp Q vs d (.bo true [x,y]) r:=EX.and (b:=true) (e▸a) c
theorem _root_.a4.EX.Mk{y:X}(a:EX lp Q vs d x (.ok (.gg b) U))(e:b=false):EX lp Q vs d (.bo true [x,y]) (.ok (.gg false) U):=EX.and (b:=false) (e▸a) rfl
theorem _root_.a4.EA.cX{a:ct}{xs:am X}{r:R ct}(c:ET lp Q vs d x (.ok b U))(e:b=a)(f:EA lp Q a vs U xs r):EA lp Q a vs d (x::xs) r:=EA.go (e▸c) f
theorem _root_.a4.EA.eE{a:ct}{xs:am X}(c:ET lp Q vs d x (.ok b U))(e:b= !a):EA lp Q a vs d (x::xs) (.ok (!a) U):=EA.stop (e▸c)
section
variable{o o2:FH}{y z:X}{I:V}{ie:H}{pc:ct}
theorem _root_.a4.ET.oi(a:EX lp Q vs d x (.ok v U))(c:EX lp Q vs U y (.ok w ay))(hb:aq o v w ay b)(e:b=true)(f:EX lp Q vs ay z (.ok I ie))(g:aq o2 w I ie pc):ET lp Q vs d (.ju o o2 x y z) (.ok pc ie):=ET.ju a c (e▸hb) f g
theorem _root_.a4.EX.oi(a:EX lp Q vs d x (.ok v U))(c:EX lp Q vs U y (.ok w ay))(hb:aq o v w ay b)(e:b=true)(f:EX lp Q vs ay z (.ok I ie))(g:aq o2 w I ie pc):EX lp Q vs d (.ju o o2 x y z) (.ok (.gg pc) ie):=EX.ju a c (e▸hb) f g
end
theorem _root_.a4.CA.up{n m f:a5}(h:CA lp n f ws d r)(le:n.ble m=true):CA lp m f ws d r:=a4.CA.Ob h (a5.ft le)
theorem _root_.a4.EX.as(a:EX lp Q vs d x (.ok v U))(e:v=w):EX lp Q vs d x (.ok w U):=e▸a
theorem _root_.a4.SB.rt{st:S}{ss:am S}(h:SS lp Q vs d st (.rt v) aL U):SB lp Q vs d (st::ss) (.rt v) aL U:=SB.stop h (iD Fl.b4)
theorem _root_.a4.SB.ex{st:S}{ss:am S}{c:a5}(h:SS lp Q vs d st (.ex c) aL U):SB lp Q vs d (st::ss) (.ex c) aL U:=SB.stop h (iD Fl.b4)
section
variable{bd:am S}{n:a5}{l3:am V}{ok:H->Prop}{is:am a5}{j c:a5}{hs:am S}
theorem _root_.a4.jw.gt(h:ET lp Q vs d x (.ok b U))(e:b=true){gK:H}{a:am V}(hb:SB lp Q vs U bd .nx a gK){n:a5}(c:jw lp Q x bd n a gK fl aL ay):jw lp Q x bd (n+1) vs d fl aL ay:=jw.go (e▸h) hb c
theorem _root_.a4.jw.Hy(h:ET lp Q vs d x (.ok b U))(e:b=true)(hb:SB lp Q vs U bd (.rt v) aL ay):jw lp Q x bd 1 vs d (.rt v) aL ay:=jw.stop (e▸h) hb nofun
theorem _root_.a4.jw.fin(h:ET lp Q vs d x (.ok b U))(e:b=false):jw lp Q x bd 0 vs d .nx vs U:=by subst e;exact jw.done h
theorem _root_.a4.aV.Hy{lj:V->am V->am V->Prop}{cb:am V}(h:ok d)(hb:lj w vs cb)(hs:SB lp Q cb d bd (.rt v) aL U):aV lp Q ok lj bd (w::l3) vs d (.rt v) aL U:=aV.stop h hb hs nofun
theorem _root_.a4.SS.vg(a:jw lp Q x bd n vs d .nx aL U):SS lp Q vs d (.wh x bd) .nx aL U:=SS.wh a
theorem _root_.a4.SS.Dz(a:jw lp Q x bd n vs d (.rt v) aL U):SS lp Q vs d (.wh x bd) (.rt v) aL U:=SS.wh a
theorem _root_.a4.jw.G4{c:a5}(h:ET lp Q vs d x (.ok b U))(e:b=true)(hb:SB lp Q vs U bd (.ex c) aL ay):jw lp Q x bd 1 vs d (.ex c) aL ay:=jw.stop (e▸h) hb nofun
theorem _root_.a4.aV.G4{c:a5}{lj:V->am V->am V->Prop}{cb:am V}(h:ok d)(hb:lj w vs cb)(hs:SB lp Q cb d bd (.ex c) aL U):aV lp Q ok lj bd (w::l3) vs d (.ex c) aL U:=aV.stop h hb hs nofun
theorem _root_.a4.SS.lT(hi:IT true Q vs d x false l3 ok U){ie:H}(a:aV true Q ok (λv vs cb=>cb=vs.fC j v) bd l3 vs U .nx aL ie):SS true Q vs d (.oX j x bd) .nx aL ie:=SS.oX hi a
theorem _root_.a4.SS.zB(hi:IT true Q vs d x false l3 ok U){ie:H}(a:aV true Q ok (λv vs cb=>cb=vs.fC j v) bd l3 vs U (.rt v) aL ie):SS true Q vs d (.oX j x bd) (.rt v) aL ie:=SS.oX hi a
theorem _root_.a4.SS.my{tt:ct}(hi:IT true Q vs d x tt l3 ok U){ie:H}(a:aV true Q ok (λv vs cb=>∃ws,v=.KS ws/\ws.ah=is.ah/\cb=bP is ws vs) bd l3 vs U .nx aL ie):SS true Q vs d (.fr is x bd) .nx aL ie:=SS.fr hi a
theorem _root_.a4.SS.xZ(h:SB lp Q vs d bd .nx aL U):SS lp Q vs d (.tr bd c hs) .nx aL U:=SS.MO h nofun
theorem _root_.a4.SS.Hq(h:SB lp Q vs d bd (.rt v) aL U):SS lp Q vs d (.tr bd c hs) (.rt v) aL U:=SS.MO h nofun
end
theorem _root_.a4.CA.st{f n:a5}{dw gK:H}(h:CA lp n f ws d (.ok v dw))(e:dw=gK):CA lp n f ws d (.ok v gK):=e▸h
theorem _root_.a4.CA.vl{f n:a5}{dw:H}(h:CA lp n f ws d (.ok v dw))(e:v=w):CA lp n f ws d (.ok w dw):=e▸h
def Out(lp:ct)(n f:a5)(ws:am V)(d:H)(v:V)(E:H->Prop):Prop:=∃U,CA lp n f ws d (.ok v U)/\E U
section
variable{n f:a5}{E:H->Prop}
def Out.m(o:Out lp n f ws d v E):H:=o.choose
theorem Out.ca(o:Out lp n f ws d v E):CA lp n f ws d (.ok v o.m):=o.choose_spec.1
theorem Out.q(o:Out lp n f ws d v E):E o.m:=o.choose_spec.2
theorem EQ{U:H}(h:CA lp n f ws d (.ok v U))(q:E U):Out lp n f ws d v E:=aR U h q
end
section
variable{f:a5}(F:Fn)(e:Kp.eh f=ap F)(ha:ws.ah=F.zs)
include e ha
theorem rt(hs:SB lp Q (ws++am.f7 (F.sl.ah - F.zs) .i1) d F.lV (.rt v) aL U):CA lp (Q+1) f ws d (.ok v U):=EU e ha hs (iD Fl.b4)
theorem nx(hs:SB lp Q (ws++am.f7 (F.sl.ah - F.zs) .i1) d F.lV .nx aL U):CA lp (Q+1) f ws d (.ok .bk U):=EU e ha hs (iD Fl.b4)
theorem ex{c:a5}(hs:SB lp Q (ws++am.f7 (F.sl.ah - F.zs) .i1) d F.lV (.ex c) aL U):CA lp (Q+1) f ws d (.exc c U):=EU e ha hs (iD Fl.b4)
omit ha in
theorem MV(ha:ws.ah+F.dflt.ah=F.zs)(hs:SB lp Q (ws++F.dflt.hC tI++am.f7 (F.sl.ah - F.zs) .i1) d F.lV (.rt v) aL U):CA lp (Q+1) f ws d (.ok v U):=DC e ha hs nofun
omit ha in
theorem Ox(ha:ws.ah+F.dflt.ah=F.zs)(hs:SB lp Q (ws++F.dflt.hC tI++am.f7 (F.sl.ah - F.zs) .i1) d F.lV .nx aL U):CA lp (Q+1) f ws d (.ok .bk U):=DC e ha hs nofun
end
end
def nu(v:V):bS V:=Fe v.Lp bk (ap v)
def gA(vs:am V):X->bS V
 | .v i=>(vs[i]?).tb nu
 | .c c=>nu (tI c)
 | .g c=>nu (tI c)
 |_=>bk
def oH(vs:am V):am X->bS (am V)
 | []=>ap []
 |x::l=>(gA vs x).tb λv=>(oH vs l).hC (v::·)
section
variable{lp:ct}{Q:a5}{vs aL ws:am V}{d U ay:H}{x y o:X}{v w I:V}{r:R V}{b:ct}{es:am X}{t k f8 eo i a:a5}{fs:am (a5×V)}
theorem yL(h:nu w=ap v):w=v/\v≠ .i1:=by
 delta nu at h;cases e:w.Lp with
 |true=>replace h:=e▸h;exact dE h
 |false=>replace h:=e▸h;cases h;exact⟨rfl,λz=>by replace e:=z▸e;exact mj e⟩
theorem _root_.a4.EX.p(h:gA vs x=ap v):EX lp Q vs d x (.ok v d):=by
 cases x with
 |v i=>
  refine ar (bS.bind_eq_some_iff.mp h) λw h1 h2=>?_;clear h;obtain⟨rfl,n⟩:=yL h2;exact EX.var h1 n
 |c c=>obtain⟨rfl,n⟩:=yL h;exact EX.const n
 |g c=>obtain⟨rfl,n⟩:=yL h;exact EX.glob
 |_=>exact dE h
theorem _root_.a4.EL.p:∀{es:am X} {ws:am V},oH vs es=ap ws->EL lp Q vs d es (.ok ws d):=by
 intro a
 induction a with
 |iv=>
  intro ws h;cases h;fail","
 |d2 x es b=>
  intro ws h;refine ar (bS.bind_eq_some_iff.mp h) λv h1 h2=>ar (bS.map_eq_some_iff.mp h2) λc h3 h4=>?_;clear h2 h;subst h4;exact EL.d2 (EX.p h1) (b h3)
theorem _root_.a4.EX.ae{ob:O}(b:gA vs x=ap (.bs t k))(c:d.ed t k=ap ob)(hf:wB ob a=ap v):EX lp Q vs d (.a x a) (.ok v d):=EX.ev (EX.p b) c hf
theorem _root_.a4.EX.Ai{f:a5}(ha:oH vs es=ap ws)(a:CA lp Q f ws d r):EX lp Q vs d (.f f es) r:=EX.ng (EL.p ha) a
theorem mn{ob:O}(a:gA vs x=ap (.bs t k))(b:d.ed t k=ap ob)(c:BL ob t f8=ap eo)(e:EL lp Q vs d es (.ok ws U))(f:CA lp Q eo (.bs t k::ws) U r):EX lp Q vs d (.m x f8 es) r:=xm (EX.p a) b c e f
theorem cL{ob:O}(a:gA vs x=ap (.bs t k))(b:d.ed t k=ap ob)(c:BL ob t f8=ap eo)(ha:oH vs es=ap ws)(e:CA lp Q eo (.bs t k::ws) d r):EX lp Q vs d (.m x f8 es) r:=xm (EX.p a) b c (EL.p ha) e
theorem cH{ob:O}(a:EX lp Q vs d x (.ok (.bs t k) U))(b:U.ed t k=ap ob)(c:BL ob t f8=ap eo)(ha:oH vs es=ap ws)(e:CA lp Q eo (.bs t k::ws) U r):EX lp Q vs d (.m x f8 es) r:=xm a b c (EL.p ha) e
theorem _root_.a4.SS.cF(a:EX lp Q vs d x (.ok v U)):SS lp Q vs d (.as (.v i) x) .nx (vs.fC i v) U:=SS.as a TG.wQ
theorem _root_.a4.SS.Jl(h:gA vs x=ap v):SS lp Q vs d (.as (.v i) x) .nx (vs.fC i v) d:=SS.as (EX.p h) TG.wQ
theorem _root_.a4.SS.bO{ob:O}(b:EX lp Q vs d x (.ok v U))(c:gA vs o=ap (.bs t k))(e:U.ed t k=ap ob)(ha:((eA.eh t).ww []).b6 a=true)(f:E7 ob<200):SS lp Q vs d (.as (.a o a) x) .nx vs (U.fC t k (sd ob a v)):=SS.as b (TG.ev (EX.p c) e ha f)
theorem _root_.a4.ET.bG{q:FH}(a:EX lp Q vs d x (.ok v U))(c:gA vs y=ap w)(hb:aq q v w U b):ET lp Q vs d (.mc q x y) (.ok b U):=ET.mc a (EX.p c) hb
theorem _root_.a4.ET.bR{q:FH}(a:gA vs x=ap v)(c:gA vs y=ap w)(hb:aq q v w d b):ET lp Q vs d (.mc q x y) (.ok b d):=ET.mc (EX.p a) (EX.p c) hb
theorem _root_.a4.EX.bG{q:FH}(a:EX lp Q vs d x (.ok v U))(c:gA vs y=ap w)(hb:aq q v w U b):EX lp Q vs d (.mc q x y) (.ok (.gg b) U):=EX.mc a (EX.p c) hb
theorem _root_.a4.EX.bR{q:FH}(a:gA vs x=ap v)(c:gA vs y=ap w)(hb:aq q v w d b):EX lp Q vs d (.mc q x y) (.ok (.gg b) d):=EX.mc (EX.p a) (EX.p c) hb
theorem _root_.a4.EX.bX{q:x0}(a:EX lp Q vs d x (.ok v U))(b:gA vs y=ap w)(hb:au q v w U r):EX lp Q vs d (.b q x y) r:=EX.bin a (EX.p b) hb
theorem _root_.a4.EX.bp{q:x0}(a:gA vs x=ap v)(b:gA vs y=ap w)(hb:au q v w d r):EX lp Q vs d (.b q x y) r:=EX.bin (EX.p a) (EX.p b) hb
theorem _root_.a4.EX.gb(a:EX lp Q vs d x (.ok v U))(b:gA vs y=ap w)(c:bD v w U I):EX lp Q vs d (.s x y) (.ok I U):=EX.Kj a (EX.p b) c
theorem _root_.a4.EX.mP(a:gA vs x=ap v)(b:gA vs y=ap w)(c:bD v w d I):EX lp Q vs d (.s x y) (.ok I d):=EX.Kj (EX.p a) (EX.p b) c
theorem _root_.a4.EX.oz{n:a5}(ha:oH vs es=ap ws)(hb:bJ lp n ws d r):EX lp Q vs d (.bi n es) r:=EX.bi (EL.p ha) hb
theorem _root_.a4.EX.JM(ha:oH vs es=ap ws)(hn:ws.ah<=1000):EX lp Q vs d (.tp es) (.ok (.KS ws) d):=EX.tp (EL.p ha) hn
theorem _root_.a4.SS.oM(h:gA vs x=ap v):SS lp Q vs d (.rt x) (.rt v) vs d:=SS.rt (EX.p h)
end
end K
end Internal
end
section
namespace Internal.K
section
variable{lp:ct}{Q g nb:a5}{d:H}
def oR(nb:a5):O:=.qD [(32,.bn 48),(53,.bn nb),(69,.bn 4),(70,.bn 8),(71,.bn 2),(48,.bn 24),(72,.bn 2),(73,.bn 12),(74,.bn 2),(75,.bn 10),(76,.bn 12),(77,.bn 13)]
theorem pN{a b:b0}(h:0<b)(h':b<1000000000):CA lp 1 67 [.bn a,.bn b] d (.ok (.bn ((a+b - 1)/b)) d):=by apply rt kU rfl rfl;fail"5CAA16'W'h$$"
theorem d8(h:d.ed 14 g=ap (oR nb)):CA lp 1 69 [.bs 14 g] d (.ok (.bn 14) d):=by apply rt eH rfl rfl;fail"5C;&$'&$'6"
theorem sR(h:d.ed 14 g=ap (oR nb)):CA lp 2 70 [.bs 14 g] d (.ok (.bn 672) d):=by haveI h1:=d8 (lp:=lp) h;apply rt fN rfl rfl;fail"5C;&$'7$''*$'Z";exact jA (by decide) (by decide)
theorem Aj(h:d.ed 14 g=ap (oR nb)){n:b0}:CA lp 1 73 [.bs 14 g,.bn n] d (.ok (.KS [.bn (10+n/2),.bn (n % 2*24)]) d):=by apply rt iS rfl rfl;fail"5C";apply EX.tp;fail");&$';(&$'h";decide;decide;fail"6);;(&$'v";decide;fail"&$'Z";exact jA (b0.bb (by decide) (b0.emod_nonneg n (by decide))) (b0.l6 (b0.uo (b0.emod_lt_of_pos n (by decide)) (by decide)));fail",0"
theorem OB:∀nb:a5,nb<=32->20<=nb->((nb:b0)+384 - 1)/384=1:=by decide
theorem rg(kz:20<=nb)(a:nb<=32):CA lp 2 68 [.bs 14 (d.gz 14),.bn 48,.bn nb,.bn 4,.bn 8,.bn 2] (d.hM 14 (.qD [])) (.ok .bk (d.hM 14 (oR nb))):=by
 haveI h1:∀d,CA lp 1 67 [.bn 4,.bn 2] d (.ok (.bn 2) d):=λd=>pN (by decide) (by decide);haveI h2:∀d,CA lp 1 67 [.bn nb,.bn 384] d (.ok (.bn 1) d):=λd=>CA.vl (pN (by decide) (by decide)) (b5 V.bn (OB nb a kz));haveI h3:decide ((nb:b0)<1)=false:=dF (b0.to.ow (b0.sp.ow (a5.bb av kz)));haveI h4:decide ((nb:b0)<=13)=false:=dF (b0.Km.ow (b0.hB.ow (a5.ew av kz)));fail"i"
 ·apply nx kW rfl rfl;fail"%4H:8?':>(;";exact gi;fail";=16Z";exact jA (by decide) (by decide);fail"6?':>(1Z";exact jA (by decide) (by decide);fail"?'M'+%4B1v";decide;rfl;exact aq.BZ;fail"'+%4H:8?':8?':8?$M'+%3('.'0%3('.'0%3('.'0%3('.'0%3('.'0%3;";exact gi;fail";=16Z";exact jA (by decide) (by decide);fail"6'.'0%3;(&.'h";decide;decide;fail"'.'0%31h";decide;decide;fail"'.'0%3";exact gi;fail"'.'0%316'.'0%3;&.'F)()&.',";(apply CA.up;apply_assumption;rfl);fail"6'.'0%3;&.'F)()1Z";exact jA (by decide) (by decide);fail",";(apply CA.up;apply_assumption;rfl);fail"6'.'0%4B&.''n$++"
 ·simp only[bF,qr];rfl
end
section
variable{l:am (b0×V)}{n m:b0}{v:V}
theorem oI:∀{l:am (b0×V)},bY (ee l n v) m=if n=m then ap v else bY l m:=by
 intro a
 induction a with
 |iv=>
  fail"c"
 |d2 p l b=>
  refine ab gS ?_;by_cases h:p.1=n
  ·refine ab ((et h)) (ab b9 (ab b9 ?_));subst h;by_cases q:p.1=m
   ·exact((et q)).trans (ab (et q) rfl)
   ·exact((dx q)).trans (ab (dx q) (ab (dx q) rfl))
  ·refine ab ((dx h)) (ab b9 (ab b9 (ab b ?_)));by_cases q:p.1=m
   ·exact((et q)).trans (ab (dx λz=>h (q.trans z.symm)) (ab (et q) rfl))
   ·exact((dx q)).trans (ab (dx q) rfl)
theorem pU:∀{l:am (b0×V)} {x:b0},x∈(ee l n v).hC (·.1)->x=n\/x∈l.hC (·.1):=by
 intro a
 induction a with
 |iv=>
  intro x h;exact .u0 (am.e0.mp h)
 |d2 p l b=>
  intro x h;rw[gS]at h
  split at h
  ·exact .wl h
  ·exact(am.hD.mp h).ef (λz=> .wl (ab z (.sk _))) λz=>(b z).DO id (.sy _)
theorem uY:∀{l:am (b0×V)},(l.hC (·.1)).p9->((ee l n v).hC (·.1)).p9:=by
 intro a
 induction a with
 |iv=>
  exact λ_=>am.p5.ow ⟨(λz=>bC z),.iv⟩
 |d2 p l b=>
  intro h;rw[am.wL,am.p5]at h;rw[gS]
  split
  ·exact am.p5.ow h
  ·rename_i q
   exact am.p5.ow ⟨λz=>(pU z).ef q h.1,b h.2⟩
theorem ti:∀{l:am (b0×V)},(ee l n v).ah=if(bY l n).z_ then l.ah else l.ah+1:=by
 intro a
 induction a with
 |iv=>
  fail"c"
 |d2 p l b=>
  refine ab gS (ab b9 ?_)
  split
  ·rfl
  ·refine(am.o3).trans (ab am.o3 (ab b ?_))
   split<;>rfl
theorem mf:∀{l:am (b0×V)},bY l n=bk↔n∉l.hC (·.1):=by
 intro a
 induction a with
 |iv=>
  exact⟨λZ=>(λz=>bC z),λZ=>rfl⟩
 |d2 p l b=>
  rw[b9,am.wL,am.hD];by_cases h:p.1=n
  ·rw[et h];exact⟨(λz=>oP z),λz=>kk (.u0 h.symm) z⟩
  ·rw[dx h,b];exact⟨λq z=>z.ef (λz=>h z.symm) q,λq z=>q (.wl z)⟩
end
theorem pg:∀{l m:am b0},l.p9->(∀x,x∈l->x∈m)->l.ah<=m.ah:=by
 intro c
 induction c with
 |iv=>
  intro Z Z Z;exact a5.ri _
 |d2 a l d=>
  intro m h s;haveI ha:=s a (.sk _);rw[am.p5]at h;haveI:=d h.2 λx b=>(am.mem_erase_of_ne λ(z:x=a)=>h.1 (z▸b)).ow (s x (.sy _ b));rw[am.length_erase_of_mem ha]at this;exact ab am.o3 (a5.add_le_of_le_sub (am.length_pos_of_mem ha) this)
def Kw:am b0:=(am.range 32).hC b0.kP
theorem Kw.mem{x:b0}(h:0<=x/\x<32):x∈Kw:=by obtain⟨n,rfl⟩:=b0.eq_ofNat_of_zero_le h.1;exact am.Ic (am.mem_range.ow (b0.hB.mp h.2))
structure mi(l:am (b0×V)):Prop where
 nd:(l.hC (·.1)).p9
 Kj:∀x,x∈l.hC (·.1)->0<=x/\x<32
theorem mi.ER{l:am (b0×V)}(h:mi l):l.ah<=32:=by haveI:=pg h.nd λx a=>Kw.mem (h.Kj x a);rwa [am.fz,Kw,am.fz,am.length_range]at this
theorem mi.put{l:am (b0×V)}{n:b0}{v:V}(h:mi l)(h0:0<=n)(h1:n<32):mi (ee l n v):=⟨uY h.nd,λx a=>(pU a).ef (λz=>z▸⟨h0,h1⟩) (h.Kj x)⟩
theorem mi.lim{l:am (b0×V)}(h:mi l):l.ah<=aQ:=a5.bb h.ER av
theorem mi.iv:mi []:=⟨.iv,λx z=>bC z⟩
def Jw:am a5:=[12,13,14,16,17,20,21,28]
def Jx:am a5:=11::22::Jw
structure Fr(S:am a5)(d U:H):Prop where
 go:∀t,S.b6 t=false->U.ed t=d.ed t/\U.gz t=d.gz t
 mQ:∀t,Jw.b6 t=true->U.gz t=d.gz t
 xj:U.gz 11+d.gz 22=U.gz 22+d.gz 11
theorem Fr.at{S:am a5}{d U:H}{t k:a5}{o:bS O}(f:Fr S d U)(h:d.ed t k=o)(c:S.b6 t=false):U.ed t k=o:=(Gc (f.go t c).1 k).trans h
section
variable{S S':am a5}{d U ay:H}{t k:a5}{o:O}
theorem Fr.hJ:Fr S d d:=⟨λZ Z=>⟨rfl,rfl⟩,λZ Z=>rfl,a5.tz _ _⟩
theorem Mg{a b c Q e f:a5}(h:c+b=Q+a)(h':e+Q=f+c):e+b=f+a:=by omega
theorem Fr.trans(a:Fr S d U)(b:Fr S U ay):Fr S d ay:=⟨λt h=>⟨(b.go t h).1.trans (a.go t h).1,(b.go t h).2.trans (a.go t h).2⟩,λt h=>(b.mQ t h).trans (a.mQ t h),Mg a.xj b.xj⟩
theorem Fr.fC(h:S.b6 t=true)(a:Fr S d U):Fr S d (U.fC t k o):=⟨λt' h'=>⟨(funext λk'=>dx λz=>by replace h':=h▸z.1▸h';exact mj h').trans (a.go t' h').1,(a.go t' h').2⟩,a.mQ,a.xj⟩
theorem Fr.hM(h:(S.b6 t&& !Jx.b6 t)=true)(a:Fr S d U):Fr S d (U.hM t o):=by
 have h1:=(ct.pn.mp h).1;have h2:=(ct.pn.mp h).2;have h3:∀t',Jx.b6 t'=true->(U.hM t o).gz t'=U.gz t':=λt' h'=>dx λz=>by rw[←z,h']at h2;exact dP h2
 refine⟨λt' h'=>⟨(funext λk'=>dx λz=>by replace h':=h1▸z.1▸h';exact mj h').trans (a.go t' h').1,(dx λz=>by replace h':=h1▸z▸h';exact mj h').trans (a.go t' h').2⟩,λt' h'=>(h3 t' ?_).trans (a.mQ t' h'),?_⟩
 ·exact am.fA.ow (.sy _ (.sy _ (am.fA.mp h')))
 ·rw[h3 11 rfl,h3 22 rfl];exact a.xj
theorem Fr.HG{b:O}(h:(S.b6 11&&S.b6 22)=true)(a:Fr S d U):Fr S d ((U.hM 11 o).hM 22 b):=by
 have hn:∀t',S.b6 t'=false->t'≠11/\t'≠22:=λt' h'=>⟨λz=>by rw[z,((ct.pn.mp h).1)]at h';exact mj h',λz=>by rw[z,((ct.pn.mp h).2)]at h';exact mj h'⟩;refine⟨λt' h'=>⟨(funext λk'=>(dx λz=>(hn t' h').2 z.1).trans (dx λz=>(hn t' h').1 z.1)).trans (a.go t' h').1,((dx λz=>(hn t' h').2 z).trans (dx λz=>(hn t' h').1 z)).trans (a.go t' h').2⟩,λt' h'=>?_,?_⟩
 ·refine Eq.trans ((dx λz=>?_).trans (dx λz=>?_)) (a.mQ t' h')
  ·rw[z]at h';exact dP h'
  ·rw[z]at h';exact dP h'
 ·show U.gz 11+1+d.gz 22=U.gz 22+1+d.gz 11;rw[a5.AC,a.xj,a5.AC]
theorem Fr.hA(a:Fr S d U)(h:S.l3 S'.b6=true):Fr S' d U:=⟨λt q=>a.go t (ct.sA.ow λz=>by
 rw[am.fA]at z;replace q:=(am.nw.mp h t z)▸q;exact mj q),a.mQ,a.xj⟩
end
theorem a_{d:H}{t t' k k':a5}{o:O}(h:a5.beq t' t=false):(d.fC t k o).ed t' k'=d.ed t' k':=dx λz=>by rw[z.1,a5.beq_refl]at h;exact mj h
theorem bz{d:H}{t t' k':a5}{o:O}(h:a5.beq t' t=false):(d.hM t o).ed t' k'=d.ed t' k':=dx λz=>by rw[z.1,a5.beq_refl]at h;exact mj h
abbrev Oc:=a5->am cy
def wr(k:Oc)(n:a5)(o:am cy):Oc:=λm=>if m=n then o else k m
theorem aW{k:Oc}{n:a5}{o:am cy}:wr k n o n=o:=et rfl
theorem aJ{k:Oc}{n m:a5}{o:am cy}(h:m≠n):wr k n o m=k m:=dx h
def GS:am (a5×am cy)->Oc->Oc
 | [],k=>k
 |p::r,k=>GS r (wr k p.1 p.2)
theorem mX:∀{l:am (a5×am cy)} {k:Oc} {p:a5×am cy},GS (l++[p]) k=wr (GS l k) p.1 p.2:=by
 intro a
 induction a with
 |iv=>intro k p;fail"c"
 |d2 q l b=>intro k p;exact b
def zb:am cy:=am.f7 48 0
structure Mt where
 g:a5
 nb:a5
 w:a5
 f:a5
 Dq:bS a5
 bx:bS a5
 hT:Oc
 bA:am (a5×am cy)
 dead:ct
def oV(o:bS a5):V:=match o with |ap n=> .bn n |bk=> .bk
def pr(p:a5×am cy):V:=.KS [.bn p.1,.d3 p.2]
structure DW where
 ik:a5
 il:a5
 i:a5
 lk:am (b0×V)
 ll:am (b0×V)
def dq(Z:Mt)(W:DW):O:=.qD [(53,.bn Z.nb),(6,.bn 48),(61,.bs 23 W.ik),(62,.bs 24 W.il),(63,.bs 25 W.i),(52,.bn Z.w),(64,.bn Z.f),(65,oV Z.Dq),(66,oV Z.bx),(67,.gg Z.dead)]
structure DR(l:am (b0×V))(k:Oc):Prop where
 key:mi l
 at_:∀n:a5,(bY l n).ww (.d3 zb)=.d3 (k n)
theorem DR.put{l:am (b0×V)}{k:Oc}{n:a5}{o:am cy}(h:DR l k)(hn:n<32):DR (ee l n (.d3 o)) (wr k n o):=⟨h.key.put (b0.dv n) (b0.hB.ow hn),λm=>by
 rw[oI];by_cases z:n=m
 ·subst z;rw[et rfl,aW];rfl
 ·rw[dx (λy=>z (b0.Ls.mp y)),aJ (Ne.symm z)];exact h.at_ m⟩
theorem DR.iv:DR [] (λZ=>zb):=⟨mi.iv,λn=>rfl⟩
structure Eu(d:H)(Z:Mt)(W:DW):Prop where
 dy:d.ed 13 Z.g=ap (dq Z W)
 bA:d.ed 25 W.i=ap (.dG (Z.bA.hC pr))
 er:∀p,p∈Z.bA->p.1<32
 hT:d.ed 23 W.ik=ap (.di W.lk)
 kr:DR W.lk Z.hT
 oU:d.ed 24 W.il=ap (.di W.ll)
 lr:DR W.ll (GS Z.bA Z.hT)
 nb:Z.nb<=32
 pw:Z.dead=true->Z.Dq=bk->Z.bx=bk->uk
 bd:Z.g<d.gz 13/\W.ik<d.gz 23/\W.i<d.gz 25
def aS(d:H)(Z:Mt):Prop:=∃W,Eu d Z W
section
variable{lp:ct}{Q:a5}{d U:H}{Z:Mt}{n:a5}
def aS.W(D:aS d Z):DW:=D.choose
theorem aS.q(D:aS d Z):Eu d Z D.W:=D.choose_spec
theorem aS.fr(D:aS d Z){S:am a5}(h:Fr S d U)(e:(S.b6 13 ||S.b6 23 ||S.b6 24 ||S.b6 25)=false):aS U Z:=by haveI b:=ct.kb.mp e;haveI c:=ct.kb.mp b.1;haveI a:=ct.kb.mp c.1;obtain⟨W,q⟩:=D;exact⟨W,Fr.at h q.dy a.1,Fr.at h q.bA b.2,q.er,Fr.at h q.hT a.2,q.kr,Fr.at h q.oU c.2,q.lr,q.nb,q.pw,by rw[(h.go 13 a.1).2,(h.go 23 a.2).2,(h.go 25 b.2).2];exact q.bd⟩
theorem wo{n:a5}(h:n<32):aP n:=jA (b0.bb (by decide) (b0.dv n)) (b0.bb (b0.sp.ow (a5.l6 h)) (by decide))
theorem h_(D:aS d Z)(hd:Z.dead=false):CA lp 1 55 [.bs 13 Z.g] d (.ok .bk d):=by haveI h:=D.q.dy;unfold dq at h;rw[hd]at h;apply nx fS rfl rfl;fail"%4G&$''++"
theorem jN(D:aS d Z)(h2:n<Z.nb):CA lp 1 56 [.bs 13 Z.g,.bn n] d (.ok .bk d):=by haveI h:=D.q.dy;have h1:=dT (b0.dv n);have h2:=J0 (b0.hB.ow h2);apply nx fT rfl rfl;fail"%4H:fG";apply EX.mu;fail"(':f";apply ET.oi;fail"=({$&$'?$M'++"
theorem CZ(D:aS d Z)(hd:Z.dead=false)(hn:n<Z.nb):CA lp 2 57 [.bs 13 Z.g,.bn n] d (.ok (.d3 (GS Z.bA Z.hT n)) d):=by haveI h1:=h_ (lp:=lp) D hd;haveI h2:=jN (lp:=lp) D hn;haveI h:=D.q.dy;haveI h3:=D.q.oU;refine CA.vl ?_ (D.q.lr.at_ n);apply rt mF rfl rfl;fail"%27$''*$'%27$''*$'5CO_&$')()J)&$',";apply bJ.uQ;decide;fail",";apply lF.LP;fail"$$'"
end
def over(l:bS a5)(w:a5):ct:=match l with |ap m=>a5.ble m w |bk=>false
def Mt.jt(Z:Mt):Mt:={Z with dead:=true}
def Mt.wrote(Z:Mt)(n:a5)(o:am cy):Mt:={Z with w:=Z.w+1,bA:=Z.bA++[(n,o)]}
def Mt.flushed(Z:Mt):Mt:={Z with f:=Z.f+1,hT:=GS Z.bA Z.hT,bA:=[]}
def DS:am a5:=[13,23,24,25]
section
variable{lp:ct}{Q:a5}{d U:H}{Z:Mt}{n:a5}{o:am cy}{P:Prop}{vs:am V}
theorem Gm{m w:a5}:decide ((m:b0)<=(w:b0))=a5.ble m w:=by
 cases h:a5.ble m w with
 |true=>exact dT (b0.sp.ow (a5.ft h))
 |false=>exact dF λz=>by rw[a5.ov (b0.sp.mp z)]at h;exact mj h
theorem ya{a b:a5}{l:bS a5}{w:a5}{fs:am (a5×V)}(h:d.ed 13 Z.g=ap (.qD fs))(ha:nX fs a=ap (oV l))(hb:nX fs b=ap (.bn w))(c:gA vs (.v 0)=ap (.bs 13 Z.g)):ET lp Q vs d (.bo true [.mc .IsNot (.a (.v 0) a) (.c .bk),.mc .GtE (.a (.v 0) b) (.a (.v 0) a)]) (.ok (over l w) d):=by
 cases l with
 |bk=>
  fail"HtBy$$'";exact aq.uc;rfl
 |ap m=>
  have e:over (ap m) w=decide ((m:b0)<=(w:b0)):=Gm.symm;rw[e];cases h5:decide ((m:b0)<=(w:b0))with
  |true=>
   fail"H:By$$'";exact aq.vH (iD V.b4);fail"':>y$$y$$n$M"
  |false=>
   fail"H:By$$'";exact aq.vH (iD V.b4);fail"'t>y$$y$$n$"
theorem wm{n:a5}(h:n<=aQ):((n:b0)).natAbs.log2<1920:=by
 rw[b0.natAbs_natCast];by_cases z:n=0
 ·subst z;fail"0"
 ·exact a5.uo ((a5.log2_lt z).ow (a5.fp h (by decide:aQ<2^20))) av
theorem vV(D:aS d Z)(a:Z.w<=aQ):CA true 1 59 [.bs 13 Z.g] d (.exc 5 (d.fC 13 Z.g (dq Z.jt D.W))):=by haveI h:=D.q.dy;apply ex mH rfl rfl;fail"%3";exact xb;fail"'$'0Q";apply KR (wm a);fail"&.'"
theorem aS.NJ(D:aS d Z)(a:Z.Dq=bk->Z.bx=bk->uk):aS (d.fC 13 Z.g (dq Z.jt D.W)) Z.jt:=⟨D.W,mx,D.q.bA,D.q.er,D.q.hT,D.q.kr,D.q.oU,D.q.lr,D.q.nb,λY=>a,D.q.bd⟩
theorem Ax(D:aS d Z)(hd:Z.dead=false)(hn:n<Z.nb)(f:o.ah=48)(g:Z.w<=aQ)(i:Z.bA.ah+1<=aQ)
  (j:∀m,CA true 2 58 [.bs 13 Z.g,.bn n,.d3 o] d (.ok .bk m)->aS m (Z.wrote n o)->Fr DS d m->P) (k:∀m,CA true 2 58 [.bs 13 Z.g,.bn n,.d3 o] d (.exc 5 m)->aS m Z.jt->Fr DS d m->P):P:=by
 haveI h1:=h_ (lp:=true) D hd;haveI h2:=jN (lp:=true) D hn;haveI h:=D.q.dy;haveI h3:=D.q.bA;haveI h6:=D.q.oU;haveI e:=a5.ew hn D.q.nb;haveI r:=wo e;haveI s:=D.q.lr.key.lim;haveI t:(!((o.ah:b0)==48))=false:=GU (b5 _ f);haveI u:o.ah<=aQ:=f▸av;haveI v:(Z.bA.hC pr).ah+1<=aQ:=(am.fz ..).symm▸i;haveI ht:=λ(vs:am V)=>ya (lp:=true) (Q:=1) (vs:=vs) (a:=65) (b:=52) (l:=Z.Dq) (w:=Z.w) h rfl rfl;cases c:over Z.Dq Z.w with
 |true=>
  haveI hf:=vV D g;refine k _ ?_ (D.NJ λz Y=>by rw[z]at c;exact dP c) (.fC rfl .hJ);apply ex hK rfl rfl;fail"%27$''*$'%27$''*$'%4>Ig$&$'";exact aq.BZ;fail"$+Q";apply SS.gV (ht _ rfl) c;fail"Q]7$''*$'"
 |false=>
  refine j ?m1 ?c1 ?a1 ?b1
  case c1=>
   apply nx hK rfl rfl;fail"%27$''*$'%27$''*$'%4>Ig$&$'";exact aq.BZ;fail"$+%";apply SS.bu (ht _ rfl) c;fail"+%a($'=d$'0%TI";apply bJ.AG;fail"$^&.'(";apply gB.di;fail"$$$%2_&"
   (repeat first |exact a4.mx |assumption |refine(a4.K.a_ rfl).trans ?_ |refine(a4.K.bz rfl).trans ?_);fail"')";apply EX.tp;fail")()I"
   apply bJ.AG;fail"$,0,z$$$+"
  case a1=>
   refine⟨⟨D.W.ik,D.W.il,D.W.i,D.W.lk,ee D.W.ll n (.d3 o)⟩,(a_ rfl).trans ((a_ rfl).trans mx),mx.trans ?_,λp q=>(am.uf.mp q).ef (D.q.er p) λz=>am.e0.mp z▸e,D.q.hT,D.q.kr,(a_ rfl).trans mx,mX▸D.q.lr.put e,D.q.nb,D.q.pw,D.q.bd⟩;rw[show(Z.wrote n o).bA=Z.bA++[(n,o)]from rfl,am.LI];rfl
  case b1=>exact .fC rfl (.fC rfl (.fC rfl .hJ))
end
section
variable{lp:ct}{Q:a5}{d U:H}{Z:Mt}{n:a5}{o:am cy}{P:Prop}{vs:am V}
theorem aK{d:H}{t:a5}{o:O}:(d.hM t o).ed t (d.gz t)=ap o:=et ⟨rfl,rfl⟩
theorem sE{ob:O}{g ik i:a5}{lu:am V}(ha:wB ob 61=ap (.bs 23 ik)):∀{l:am (a5×am cy)} {d:H} {a b:V} {lk:am (b0×V)} {k:Oc},(∀p,p∈l->p.1<32)->d.ed 13 g=ap ob->d.ed 25 i=ap (.dG lu)->d.ed 23 ik=ap (.di lk)->DR lk k->
  ∃c b' U,aV true 1 (λm=>m.ed 25 i=ap (.dG lu)) (λv vs cb=>∃ws,v=.KS ws/\ws.ah=[1,2].ah/\cb=bP [1,2] ws vs) [.as (.s (.a (.v 0) 61) (.v 1)) (.v 2)] (l.hC pr) [.bs 13 g,a,b] d .nx [.bs 13 g,c,b'] U/\(∃e,U.ed 23 ik=ap (.di e)/\DR e (GS l k))/\Fr [23] d U/\U.gz 23=d.gz 23:=by
 intro f
 induction f with
 |iv=>
  intro d a b lk k Z h1 h2 h3 h4;exact⟨_,_,_,.iv h2,(aR _ h3 h4),.hJ,rfl⟩
 |d2 p l h=>
  intro d a b lk k hs h1 h2 h3 h4;haveI hn:=hs p (.sk _);haveI q:=h4.key.lim;haveI r:=wo hn;refine wb (h (d:=d.fC 23 ik (.di (ee lk p.1 (.d3 p.2)))) (a:=.bn p.1) (b:=.d3 p.2) (λv j=>hs v (.sy _ j)) h1 h2 mx (h4.put hn)) λc b' U ht n hf o=>?_;refine xJ c b' U (.d2 h2 ⟨_,rfl,rfl,rfl⟩ ?_ ht) n ((Fr.fC rfl .hJ).trans hf) o;fail"%T(^&$$(";apply gB.di;fail"$$$+"
theorem Ay(D:aS d Z)(hd:Z.dead=false)(e:Z.w<=aQ)
  (f:∀m,CA true 2 60 [.bs 13 Z.g] d (.ok .bk m)->aS m Z.flushed->Fr DS d m->P) (j:∀m,CA true 2 60 [.bs 13 Z.g] d (.exc 5 m)->aS m Z.jt->Fr DS d m->P):P:=by
 haveI h1:=h_ (lp:=true) D hd;haveI h:=D.q.dy;haveI h3:=D.q.bA;haveI ht:=λ(vs:am V)=>ya (lp:=true) (Q:=1) (vs:=vs) (a:=66) (b:=64) (w:=Z.f) h rfl rfl;cases c:over Z.bx Z.f with
 |true=>
  haveI hf:=vV D e;refine j _ ?_ (D.NJ λY z=>by rw[z]at c;exact dP c) (.fC rfl .hJ);apply ex hP rfl rfl;fail"%27$''*$'Q";apply SS.gV (ht _ rfl) c;fail"Q]7$''*$'"
 |false=>
  obtain⟨q,b',dw,r,⟨k,l,n⟩,hf,o⟩:=sE (ob:=sd (dq Z D.W) 64 (.bn ((Z.f:b0)+1))) (g:=Z.g) (i:=D.W.i) rfl D.q.er mx D.q.bA D.q.hT D.q.kr;haveI s:=(Gc (hf.go 13 rfl).1 Z.g).trans mx;refine f ?m1 ?c1 ?a1 ?b1
  case c1=>
   apply nx hP rfl rfl;fail"%27$''*$'%";apply SS.bu (ht _ rfl) c;fail"+%a($'=d$'0%|";apply IT.of;fail"&.'";apply Es.dG;fail"$$%3";apply EX.ls (ce:=25);fail",0'";(repeat first |exact a4.mx |assumption |refine(a4.K.a_ rfl).trans ?_ |refine(a4.K.bz rfl).trans ?_);fail"'0+"
  case a1=>exact⟨⟨D.W.ik,D.W.il,dw.gz 25,k,D.W.ll⟩,mx,(a_ rfl).trans aK,λp z=>bC z,(a_ rfl).trans ((bz rfl).trans l),n,(a_ rfl).trans ((bz rfl).trans ((Gc (hf.go 24 rfl).1 _).trans ((a_ rfl).trans D.q.oU))),D.q.lr,D.q.nb,D.q.pw,by
   have:=D.q.bd;exact⟨a5.x3 this.1 ((hf.go 13 rfl).2).symm,a5.x3 this.2.1 o.symm,a5.wS _⟩⟩
  case b1=>exact .fC rfl (.hM rfl ((Fr.fC rfl .hJ).trans (hf.hA rfl)))
end
structure Bf where
 k:a5
 hy:am cy
 sx:a5
 pins:a5
def pR(n:a5)(b:Bf):O:=.qD [(18,.bn n),(46,.bs 22 b.k),(23,.bn b.sx),(47,.bn b.pins)]
def fE(g:a5)(hi re wr:b0):O:=.qD [(17,.bs 13 g),(28,.bn 12),(6,.bn 48),(48,.bs 20 g),(49,.bs 21 g),(50,.bn hi),(51,.bn re),(52,.bn wr)]
structure CW where
 hi:b0
 re:b0
 wr:b0
 bl:am (b0×V)
 rl:am V
structure cj(d:H)(g:a5)(B:a5->bS Bf)(c:a5)(W:CW):Prop where
 pu:d.ed 12 g=ap (fE g W.hi W.re W.wr)
 BT:d.ed 21 g=ap (.di W.bl)
 key:mi W.bl
 LL:∀n:a5,bY W.bl n=(B n).hC λb=> .bs 11 b.k
 row:d.ed 20 g=ap (.dG W.rl)
 qj:W.rl.ah=W.bl.ah
 tx:W.rl.p9
 DE:∀v,v∈W.rl->∃n b,B n=ap b/\v=.bs 11 b.k
 r9:∀n b,B n=ap b->.bs 11 b.k∈W.rl
 buf:∀n b,B n=ap b->d.ed 11 b.k=ap (pR n b)/\d.ed 22 b.k=ap (.aB b.hy)/\b.hy.ah=48/\b.k<c
 uO:d.gz 11=c
 rF:d.gz 22=c
def cR(d:H)(g:a5)(B:a5->bS Bf)(c:a5):Prop:=∃W,cj d g B c W
def up(B:a5->bS Bf)(n:a5)(b:Bf):a5->bS Bf:=λm=>if m=n then ap b else B m
section
variable{lp:ct}{Q:a5}{d U:H}{B B':a5->bS Bf}{c g n m k p:a5}{Y:CW}{b b':Bf}{dt:am cy}
theorem bB:up B n b n=ap b:=et rfl
theorem cf(h:m≠n):up B n b m=B m:=dx h
theorem qc(h:up B n b m=bk):B m=bk:=by
 delta up at h
 split at h
 ·exact oP h
 ·exact h
def cR.W(C:cR d g B c):CW:=C.choose
theorem cR.q(C:cR d g B c):cj d g B c C.W:=C.choose_spec
theorem cj.Lr(C:cj d g B c Y)(h:B n=ap b):n<32:=Decidable.Gr λz=>by
 have:=C.LL n;rw[h,mf.ow λq=>z (b0.hB.mp (C.key.Kj _ q).2)]at this;exact dE this
theorem cj.ne(C:cj d g B c Y)(h:B n=ap b)(h':B m=ap b')(q:m≠n):b'.k≠b.k:=λe=>by
 haveI h1:=(C.buf m b' h').1;rw[e,(C.buf n b h).1]at h1;injection h1 with h1;injection h1 with h1;injection h1 with h1;injection h1 with _ h1;injection h1 with h1;exact q (b0.Ls.mp h1).symm
theorem cj.x9(C:cj d g B c Y)(hb:B n=ap b)(a:b'.k=b.k)(j:U.ed 11 b.k=ap (pR n b'))(l:U.ed 22 b.k=ap (.aB b'.hy))(o:b'.hy.ah=48)(p:∀k,k≠b.k->U.ed 11 k=d.ed 11 k)(r:∀k,k≠b.k->U.ed 22 k=d.ed 22 k){hi re wr:b0}{rl:am V}
  (pu:U.ed 12 g=ap (fE g hi re wr)) (BT:U.ed 21 g=d.ed 21 g) (row:U.ed 20 g=ap (.dG rl)) (s:rl.ah=Y.rl.ah) (f:∀v,v∈rl↔v∈Y.rl) (tx:rl.p9) (uO:U.gz 11=d.gz 11) (rF:U.gz 22=d.gz 22):cj U g (up B n b') c ⟨hi,re,wr,Y.bl,rl⟩:=by
 have i:∀m x,up B n b' m=ap x->(m=n/\x=b')\/(m≠n/\B m=ap x):=λm x h=>by
  delta up at h
  split at h
  ·rename_i q;exact .u0 ⟨q,(bS.ap.zv h).symm⟩
  ·rename_i q;exact .wl ⟨q,h⟩
 refine⟨pu,BT.trans C.BT,C.key,λm=>?_,row,s.trans C.qj,tx,λv t=>?_,λm x h=>(f _).ow ?_,λm x h=>?_,uO.trans C.uO,rF.trans C.rF⟩
 ·refine ab (C.LL m) ?_;by_cases q:m=n
  ·subst q;exact ab (hb) (ab bB (b5 (λk=>ap (V.bs 11 k)) a.symm))
  ·exact ab (cf q) rfl
 ·refine aO (C.DE v ((f v).mp t)) λm x h1 h2=>?_;by_cases q:m=n
  ·subst q;obtain rfl:=bS.ap.zv (hb.symm.trans h1);exact gZ m b' bB (ab a h2)
  ·exact gZ m x ((cf q).trans h1) h2
 ·rcases i m x h with⟨rfl,rfl⟩ |⟨q,h⟩
  ·exact ab a (C.r9 m b hb)
  ·exact C.r9 m x h
 ·rcases i m x h with⟨rfl,rfl⟩ |⟨q,h⟩
  ·exact ab a (⟨j,l,o,(C.buf m b hb).2.2.2⟩)
  ·haveI e:=C.ne hb h q;exact ab (p _ e) (ab (r _ e) (C.buf m x h))
theorem cj.x8(C:cj d g B c Y)(hb:B n=ap b)(a:b'.k=b.k)(e:U.ed 11 b.k=ap (pR n b'))(f:U.ed 22 b.k=ap (.aB b'.hy))(h:b'.hy.ah=48)(i:∀k,k≠b.k->U.ed 11 k=d.ed 11 k)(j:∀k,k≠b.k->U.ed 22 k=d.ed 22 k){hi re wr:b0}{rl:am V}
  (pu:U.ed 12 g=ap (fE g hi re wr)) (BT:U.ed 21 g=d.ed 21 g) (row:U.ed 20 g=ap (.dG rl)) (l:rl.ah=Y.rl.ah) (m:∀v,v∈rl↔v∈Y.rl) (tx:rl.p9) (uO:U.gz 11=d.gz 11) (rF:U.gz 22=d.gz 22):cR U g (up B n b') c:=
 ⟨_,C.x9 hb a e f h i j pu BT row l m tx uO rF⟩
theorem cj.hA(C:cj d g B c Y)(hb:B n=bk)(hn:n<32)(a:b.k=c)(l:U.ed 11 c=ap (pR n b))(o:U.ed 22 c=ap (.aB b.hy))(p:b.hy.ah=48)(r:∀k,k≠c->U.ed 11 k=d.ed 11 k)(s:∀k,k≠c->U.ed 22 k=d.ed 22 k){hi re wr:b0}
  (pu:U.ed 12 g=ap (fE g hi re wr)) (BT:U.ed 21 g=ap (.di (ee Y.bl n (.bs 11 c)))) (row:U.ed 20 g=ap (.dG (Y.rl++[.bs 11 c]))) (uO:U.gz 11=c+1) (rF:U.gz 22=c+1):cj U g (up B n b) (c+1) ⟨hi,re,wr,ee Y.bl n (.bs 11 c),Y.rl++[.bs 11 c]⟩:=by
 have i:∀m x,up B n b m=ap x->(m=n/\x=b)\/(m≠n/\B m=ap x):=λm x h=>by
  delta up at h
  split at h
  ·rename_i q;exact .u0 ⟨q,(bS.ap.zv h).symm⟩
  ·rename_i q;exact .wl ⟨q,h⟩
 have hg:bY Y.bl n=bk:=by exact((C.LL n)).trans (ab hb rfl)
 refine⟨pu,BT,C.key.put (b0.dv n) (b0.hB.ow hn),λm=>?_,row,?_,?_,λv f=>?_,λm x h=>?_,λm x h=>?_,uO,rF⟩
 ·refine ab oI ?_;by_cases q:n=m
  ·subst q;exact ab (et rfl) (ab bB (b5 (λk=>ap (V.bs 11 k)) a.symm))
  ·exact ab (dx λz=>q (b0.Ls.mp z)) (ab (cf (Ne.symm q)) (C.LL m))
 ·exact(am.ep).trans (ab C.qj (ab ti (ab hg rfl)))
 ·refine am.nodup_append.ow ⟨C.tx,am.p5.ow ⟨λz=>bC z,.iv⟩,λv f w t=>?_⟩;obtain rfl:=am.e0.mp t;exact aO (C.DE v f) λm x h1 h2 z=>by rw[h2]at z;injection z with _ z;exact a5.q5 _ (z▸(C.buf m x h1).2.2.2)
 ·rcases am.uf.mp f with h |h
  ·exact aO (C.DE v h) λm x h1 h2=>gZ m x ((cf λz=>by replace h1:=hb▸z▸h1;cases h1).trans h1) h2
  ·exact⟨n,b,bB,(am.e0.mp h).trans (ab a rfl)⟩
 ·rcases i m x h with⟨rfl,rfl⟩ |⟨q,h⟩
  ·exact ab a (am.xz _ (.sk _))
  ·exact am.zi _ (C.r9 m x h)
 ·rcases i m x h with⟨rfl,rfl⟩ |⟨q,h⟩
  ·rw[a];exact mN l o p (a5.wS _)
  ·haveI u:=(C.buf m x h).1;haveI j:=(C.buf m x h).2.2.2;haveI e:=a5.sK j;exact ab (r _ e) (ab (s _ e) (⟨u,((C.buf m x h).2.1),((C.buf m x h).2.2.1),a5.IP j⟩))
theorem cj.HI(C:cj d g B c Y)(hb:B n=bk)(hn:n<32)(a:b.k=c)(e:U.ed 11 c=ap (pR n b))(f:U.ed 22 c=ap (.aB b.hy))(h:b.hy.ah=48)(i:∀k,k≠c->U.ed 11 k=d.ed 11 k)(j:∀k,k≠c->U.ed 22 k=d.ed 22 k){hi re wr:b0}
  (pu:U.ed 12 g=ap (fE g hi re wr)) (BT:U.ed 21 g=ap (.di (ee Y.bl n (.bs 11 c)))) (row:U.ed 20 g=ap (.dG (Y.rl++[.bs 11 c]))) (uO:U.gz 11=c+1) (rF:U.gz 22=c+1):cR U g (up B n b) (c+1):=⟨_,C.hA hb hn a e f h i j pu BT row uO rF⟩
theorem cR.fr(C:cR d g B c){S:am a5}(h:Fr S d U)(e:(S.b6 11 ||S.b6 12 ||S.b6 20 ||S.b6 21 ||S.b6 22)=false):cR U g B c:=by haveI a:=ct.kb.mp e;haveI f:=ct.kb.mp a.1;haveI i:=ct.kb.mp f.1;haveI b:=ct.kb.mp i.1;obtain⟨W,a1,j,o,p,k,q,r,s,t,l,m,n⟩:=C;rw[←(h.go 12 b.2).1]at a1;rw[←(h.go 21 f.2).1]at j;rw[←(h.go 20 i.2).1]at k;rw[←(h.go 11 b.1).1,←(h.go 22 a.2).1]at l;rw[←(h.go 11 b.1).2]at m;rw[←(h.go 22 a.2).2]at n;exact⟨W,a1,j,o,p,k,q,r,s,t,l,m,n⟩
theorem wk{v:V}:∀{l:am V},v∈l->∃su dL,l=su++v::dL/\∀w,w∈su->w≠v:=by
 intro b
 induction b with
 |iv=>
  exact λh=>bC h
 |d2 a l c=>
  intro h;by_cases q:a=v
  ·exact gZ ([]) l (b5 (·::l) q) (λZ z=>bC z)
  ·exact aO (c ((am.hD.mp h).K0 λz=>q z.symm)) λsu dL e z=>gZ (a::su) dL (b5 (a::·) e) (λw d=>(am.hD.mp d).ef (λz=>z▸q) (z w))
end
structure CD(d:H)(Z:Mt)(B:a5->bS Bf)(c:a5):Prop where
 C:cR d Z.g B c
 D:aS d Z
 qE:Z.dead=false
 cl:∀n b,B n=ap b->b.sx=0->b.pins=0->b.hy=GS Z.bA Z.hT n
 er:∀n b,B n=ap b->n<Z.nb
 ER:∀n,(GS Z.bA Z.hT n).ah=48
section
variable{lp:ct}{d U:H}{B B':a5->bS Bf}{c n m k p:a5}{Z:Mt}{b b':Bf}{dt o:am cy}
abbrev lK{t t':a5}{o a:O}:Prop:=∀(h:t≠t'),(d.hM t o).fC t' k a=(d.fC t' k a).hM t o
theorem qh:∀{d k t t' o b},@lK d k t t' o b:=by
 refine λ{d k t t' o b}=>cK (q:=tH @lK) ((?_:∀d k t t' o b,@lK d k t t' o b) _ _ _ _ _ _) (d,k,t,t',o,b);intro d k t t' o b h;delta H.fC H.hM
 congr 1
 funext a a'
 by_cases q:a=t'/\a'=k
 ·apply((et q)).trans;exact ab (dx λz=>h (z.1.symm.trans q.1)) ((et q).symm)
 ·refine ab (dx q) ?_;by_cases z:a=t/\a'=d.gz t
  ·exact ab ((et z)) (et z)
  ·exact ab ((dx z)) ((dx z).trans (dx q).symm)
theorem C6(a:d.gz 11=c)(b:d.gz 22=c)(e:o.ah=48):CA lp 1 32 [.bs 11 c,.bn n,.d3 o] (d.hM 11 (.qD [])) (.ok .bk ((d.hM 11 (pR n ⟨c,o,0,0⟩)).hM 22 (.aB o))):=by
 subst a;haveI f:o.ah<=aQ:=e▸av;fail"i"
 ·apply nx jI rfl rfl;fail"%3('.'0%3I";apply bJ.Pz (ce:=22);fail"$'.'0%3='.'0%3='.'0+"
 ·show(((((d.hM 11 (.qD [])).fC 11 _ _).hM 22 _).fC 11 _ _).fC 11 _ _).fC 11 _ _=_;refine(bF).trans (ab bF (ab (qh (by decide)) (ab bF (ab qr ?_))));exact ab b.symm rfl
theorem pP(h:d.ed 11 b.k=ap (pR n b))(h2:d.ed 22 b.k=ap (.aB b.hy))(a:b.hy.ah=48):CA lp 1 34 [.bs 11 b.k] d (.ok (.d3 b.hy) d):=by haveI c:b.hy.ah<=aQ:=a▸av;apply rt iw rfl rfl;fail"5CJ)&$',";apply bJ.uR;fail"$$"
theorem Gi(h:d.ed 11 b.k=ap (pR n b))(h2:d.ed 22 b.k=ap (.aB b.hy))(a:b.hy.ah=48)(c:o.ah=48):CA lp 1 38 [.bs 11 b.k,.d3 o] d (.ok .bk (d.fC 22 b.k (.aB o))):=by
 haveI f:b.hy.ah<=aQ:=a▸av;haveI g:o.ah<=aQ:=c▸av;haveI e:(!((o.ah:b0)==b.hy.ah))=false:=GU (ab (c) (ab a rfl));haveI i:=c.trans a.symm;haveI j:b.hy.ah<=b.hy.ah:=a5.i3 _;haveI k:0<=b.hy.ah:=a5.ri _;fail"i"
 ·apply nx jJ rfl rfl;fail"%4>Ig$J)&$',";apply bJ.y7;fail"$$";exact aq.BZ;fail"$+%T(";apply TG.slice;fail"&$'ss";apply pW.aB;fail"$";exact .u0 ⟨rfl,rfl⟩;exact .u0 ⟨rfl,rfl⟩;fail"$$$$+"
 ·refine ab (am.Ke) ?_;rw[am.x6];rfl
theorem C3(h:d.ed 11 b.k=ap (pR n b))(h2:d.ed 22 b.k=ap (.aB b.hy))(a:b.hy.ah=48):CA lp 1 39 [.bs 11 b.k] d (.ok .bk (d.fC 22 b.k (.aB (am.f7 48 0)))):=by
 haveI c:b.hy.ah<=aQ:=a▸av;haveI e:(am.f7 b.hy.ah (0:cy)).ah=b.hy.ah - 0:=am.Fk;haveI f:b.hy.ah<=b.hy.ah:=a5.i3 _;haveI g:0<=b.hy.ah:=a5.ri _;fail"i"
 ·apply nx i4 rfl rfl;fail"%TJ)J)&$',";apply bJ.y7;fail"$$,";apply bJ.uQ;fail"$";apply TG.slice;fail"&$'ss";apply pW.aB;fail"$";exact .u0 ⟨rfl,rfl⟩;exact .u0 ⟨rfl,rfl⟩;fail"$$$$+"
 ·rw[am.Ke,am.x6,a];rfl
theorem lg(K:CD d Z B c)(hn:n<Z.nb):CA lp 1 42 [.bs 12 Z.g,.bn n] d (.ok .bk d):=by haveI h:=K.C.q.pu;haveI h3:=K.D.q.dy;haveI h2:=J0 (b0.hB.ow hn);apply nx fy rfl rfl;fail"%4H:fG";apply EX.mu;fail"(':f";apply ET.oi;fail"=({'E&$'$'?$M'++"
theorem fZ(C:cR d Z.g B c)(hb:B n=ap ⟨k,dt,1,p⟩):CA lp 1 43 [.bs 12 Z.g,.bs 11 k] d (.ok .bk d):=by
 haveI h:=C.q.pu;haveI h1:=C.q.BT;haveI h2:=(C.q.buf n _ hb).1;haveI e:(bY C.W.bl n).ww .bk=.bs 11 k:=by exact ab (C.q.LL n) (ab hb rfl)
 apply nx fU rfl rfl;fail"%4H:BO_&$')&$',";apply lF.zx;fail"$$$'";exact aq.DL;fail"':B&$''D'M'++"
end
section
variable{lp:ct}{d U:H}{Z:Mt}{B B':a5->bS Bf}{c n m k p mt:a5}{b b':Bf}{dt o:am cy}
theorem fM{t k k':a5}{o:O}(h:k'≠k):(d.fC t k o).ed t k'=d.ed t k':=dx λz=>h z.2
theorem yV{v a:V}{su dL:am V}:v∈su++dL++[a] ↔v∈su++a::dL:=by apply(am.uf).trans;rw[am.e0,am.uf,am.uf,am.hD];exact⟨λz=>z.ef (.DO id .wl) λz=> .wl (.u0 z),λz=>z.ef (λz=> .u0 (.u0 z)) λz=>z.ef .wl λz=> .u0 (.wl z)⟩
theorem CD.turn(K:CD d Z B c)(a:cR U Z.g (up B n b') c)(D':aS U Z)(hb:B n=ap b)(q:b'.sx=0->b'.pins=0->b'.hy=GS Z.bA Z.hT n):CD U Z (up B n b') c:=⟨a,D',K.qE,λm x h=>by
 delta up at h
 split at h
 ·rename_i e;cases h;exact ab e q
 ·exact K.cl m x h,λm x h=>by
 delta up at h
 split at h
 ·rename_i e;exact ab e (K.er n b hb)
 ·exact K.er m x h,K.ER⟩
theorem Ep(K:CD d Z B c)(hb:B n=ap ⟨k,dt,mt,p⟩){h' p':a5}(q:h'=0->p'=0->dt=GS Z.bA Z.hT n):CD (d.fC 11 k (pR n ⟨k,dt,h',p'⟩)) Z (up B n ⟨k,dt,h',p'⟩) c:=
 K.turn ⟨_,K.C.q.x9 (b':=⟨k,dt,h',p'⟩) hb rfl mx (K.C.q.buf n _ hb).2.1 (K.C.q.buf n _ hb).2.2.1 (λY z=>fM z) (λY Y=>rfl) K.C.q.pu rfl K.C.q.row rfl (λY=>Iff.rfl) K.C.q.tx rfl rfl⟩ (K.D.fr (Fr.fC rfl .hJ) (S:=[11]) rfl) hb q
theorem A2(K:CD d Z B c)(hb:B n=ap ⟨k,dt,mt+1,p⟩)(a:o.ah=48):CD (d.fC 22 k (.aB o)) Z (up B n ⟨k,o,mt+1,p⟩) c:=
 K.turn ⟨_,K.C.q.x9 (U:=d.fC 22 k (.aB o)) (b':=⟨k,o,mt+1,p⟩) hb rfl (K.C.q.buf n _ hb).1 mx a (λY Y=>rfl) (λY z=>fM z) K.C.q.pu rfl K.C.q.row rfl (λY=>Iff.rfl) K.C.q.tx rfl rfl⟩ (K.D.fr (Fr.fC rfl .hJ) (S:=[22]) rfl) hb (λz=>kk z (a5.succ_ne_zero _))
theorem Je(K:CD d Z B c)(hb:B n=ap ⟨k,dt,1,p⟩):CA lp 2 47 [.bs 12 Z.g,.bs 11 k] d (.ok .bk (d.fC 11 k (pR n ⟨k,dt,1,p+1⟩))):=by haveI h0:=fZ (lp:=lp) K.C hb;haveI a:=K.C.q.pu;haveI h:=(K.C.q.buf n _ hb).1;apply nx mI rfl rfl;fail"%27$''*$'%a($'=d$'0+"
theorem CP(K:CD d Z B c)(hb:B n=ap ⟨k,dt,mt,p+1⟩):CA lp 1 48 [.bs 12 Z.g,.bn n] d (.ok .bk (d.fC 11 k (pR n ⟨k,dt,mt,p⟩))):=by
 haveI h:=K.C.q.pu;haveI h1:=K.C.q.BT;haveI h2:=(K.C.q.buf n _ hb).1;haveI e:(bY K.C.W.bl n).ww .bk=.bs 11 k:=by exact ab (K.C.q.LL n) (ab hb rfl)
 haveI b:(((p+1:a5):b0)==0)=false:=eF (λz=>nomatch z);haveI a:=b0.ur (p:b0) 1;fail"i"
 ·apply nx jH rfl rfl;fail"%9O_&$'Y";apply lF.zx;fail"$$$%4H:8";exact aq.ud (iD V.b4);fail"':B&$''D'M'+%a($'=";exact fG.Kj;fail"$'0+"
 ·unfold pR;exact ab a.symm rfl
theorem tZ{v:V}{su dL:am V}(h:(su++v::dL).p9):(su++dL++[v]).p9:=((am.perm_middle.trans (am.perm_append_singleton v (su++dL)).symm).nodup_iff).mp h
theorem l_(K:CD d Z B c)(hb:B n=ap ⟨k,dt,1,p⟩)(q:p=0->dt=GS Z.bA Z.hT n):Out lp 2 46 [.bs 12 Z.g,.bs 11 k] d .bk λU=>CD U Z (up B n ⟨k,dt,0,p⟩) c/\Fr [11,20] d U:=by
 haveI h0:=fZ (lp:=lp) K.C hb;haveI h:=K.C.q.pu;haveI h2:=(K.C.q.buf n _ hb).1;refine aO (wk (K.C.q.r9 n _ hb)) λsu dL e f=>?_;haveI h3:=K.C.q.row;replace h3:=e▸h3;haveI j:∀v,v∈su->∃k2,v=.bs 11 k2/\k2≠k/\Et (d.fC 11 k (pR n ⟨k,dt,0,p⟩)) 11 k2:=λv a=>by
  refine aO (K.C.q.DE v (ab e (am.zi _ a))) λm x q1 g=>?_;subst g;have ne:x.k≠k:=λz=>f _ a (ab z rfl);exact⟨_,rfl,ne,_,_,(fM ne).trans (K.C.q.buf m x q1).1⟩
 haveI hi:Et (d.fC 11 k (pR n ⟨k,dt,0,p⟩)) 11 k:=xK _ _ mx;haveI b:=K.C.q.qj;haveI i:=K.C.q.key.ER;rw[e]at b;haveI q1:(su++ .bs 11 k::dL).ah<=aQ:=a5.bb (a5.bb (a5.mZ b) i) av;haveI q2:(su++dL).ah+1<=aQ:=by rw[am.ep]at q1 ⊢;exact q1
 apply EQ
 ·apply nx ir rfl rfl;fail"%27$''*$'%a($'=";exact fG.Kj;fail"$'0%RB&.''D'%2_&$'Y";apply lF.remove;fail"$$$$$%2_&$'Yz..$++"
 ·refine⟨K.turn (K.C.q.x8 hb rfl mx (K.C.q.buf n _ hb).2.1 (K.C.q.buf n _ hb).2.2.1 (λY z=>fM z) (λY Y=>rfl) K.C.q.pu rfl mx ?_ (λv=>?_) (tZ (e▸K.C.q.tx)) rfl rfl) (K.D.fr (S:=[11,20]) (.fC rfl (.fC rfl (.fC rfl .hJ))) rfl) hb λY=>q,.fC rfl (.fC rfl (.fC rfl .hJ))⟩
  ·refine ab (e) ?_;rw[am.ep,am.ep,am.ep];rfl
  ·exact ab (e) (yV)
end
section
variable{lp:ct}{Q:a5}{d U:H}{Z:Mt}{B B':a5->bS Bf}{c n m k p mt:a5}{b b':Bf}{dt o:am cy}{l:am (b0×V)}{x y:b0}
theorem AW:∀{l:am (b0×V)},(l.hC (·.1)).p9->bY (jv l x) y=if x=y then bk else bY l y:=by
 intro a
 induction a with
 |iv=>intro Z;split<;>exact rfl
 |d2 q l b=>
  intro h;rw[am.wL,am.p5]at h;rw[gT];by_cases e:q.1=x
  ·rw[et e];by_cases z:x=y
   ·subst z;rw[et rfl];exact mf.ow (e▸h.1)
   ·rw[dx z,b9,dx (λw=>z (e.symm.trans w))]
  ·rw[dx e,b9,b9,b h.2];by_cases z:q.1=y
   ·rw[et z,et z,dx (λw=>e (z.trans w.symm))]
   ·rw[dx z,dx z]
theorem pV:∀{l:am (b0×V)} {z:b0},z∈(jv l x).hC (·.1)->z∈l.hC (·.1):=by
 intro a
 induction a with
 |iv=>exact λh=>h
 |d2 q l b=>
  intro z h;rw[gT]at h
  split at h
  ·exact .sy _ h
  ·exact(am.hD.mp h).ef (λe=>e▸.sk _) λe=> .sy _ (b e)
theorem u6:∀{l:am (b0×V)},(l.hC (·.1)).p9->((jv l x).hC (·.1)).p9:=by
 intro a
 induction a with
 |iv=>exact λh=>h
 |d2 q l b=>
  intro h;rw[am.wL,am.p5]at h;rw[gT]
  split
  ·exact h.2
  ·exact am.p5.ow ⟨λz=>h.1 (pV z),b h.2⟩
theorem AY:∀{l:am (b0×V)},(bY l x).z_=true->(jv l x).ah+1=l.ah:=by
 intro a
 induction a with
 |iv=>exact λh=>dP h
 |d2 q l b=>
  intro h;rw[b9]at h;rw[gT];by_cases e:q.1=x
  ·rw[et e];rfl
  ·rw[dx e]at h ⊢;exact b5 (·+1) (b h)
theorem Av(h:d.ed 11 k=ap (pR n ⟨k,dt,0,0⟩)):CA lp 1 33 [.bs 11 k] d (.ok (.gg true) d):=by apply rt cV rfl rfl;fail"5C";apply EX.Gw;apply EX.bG;fail"&$''D'";apply EX.bG;fail"&$''D"
theorem Aw(h:d.ed 11 b.k=ap (pR n b))(q:b.sx≠0\/b.pins≠0):CA lp 1 33 [.bs 11 b.k] d (.ok (.gg false) d):=by
 by_cases e:b.sx=0
 ·have a:((b.sx:b0)==0)=true:=eT (b5 _ e);rw[←(eF λz=>q.ef (λy=>y e) λy=>y (b0.Ls.mp z))];apply rt cV rfl rfl;fail"5C";apply EX.Gw;apply EX.bG;fail"&$''D$";apply EX.bG;fail"&$''D"
 ·have a:=eF λz=>e (b0.Ls.mp z);apply rt cV rfl rfl;fail"5C";apply EX.Mk;apply EX.bG;fail"&$''D$"
end
def oS(B:a5->bS Bf)(n:a5):a5->bS Bf:=λm=>if m=n then bk else B m
section
variable{lp:ct}{Q:a5}{d U:H}{Z:Mt}{B B':a5->bS Bf}{c g n m k p mt:a5}{b b':Bf}{dt o:am cy}{Y:CW}
theorem jk(h:oS B n m=ap b):m≠n/\B m=ap b:=by
 delta oS at h
 split at h
 ·exact dE h
 ·rename_i q;exact⟨q,h⟩
theorem wD{v:V}{su dL:am V}(h:(su++v::dL).p9):v∉su++dL:=by haveI:=(am.perm_middle.nodup_iff).mp h;exact(am.p5.mp this).1
theorem cj.less(C:cj d g B c Y)(hb:B n=ap b){su dL:am V}(e:Y.rl=su++ .bs 11 b.k::dL)(pu:U.ed 12 g=d.ed 12 g)(BT:U.ed 21 g=ap (.di (jv Y.bl n)))(row:U.ed 20 g=ap (.dG (su++dL)))
  (f:U.ed 11=d.ed 11) (i:U.ed 22=d.ed 22) (uO:U.gz 11=d.gz 11) (rF:U.gz 22=d.gz 22):cj U g (oS B n) c ⟨Y.hi,Y.re,Y.wr,jv Y.bl n,su++dL⟩:=by
 have hg:bY Y.bl n=ap (.bs 11 b.k):=(C.LL n).trans (by rw[hb];rfl);have tx:=C.tx;rw[e]at tx;have f8:=wD tx;refine⟨pu.trans C.pu,BT,⟨u6 C.key.nd,λx j=>C.key.Kj x (pV j)⟩,λm=>?_,row,?_,(am.p5.mp ((am.perm_middle.nodup_iff).mp tx)).2,λv a=>?_,λm x h=>?_,λm x h=>?_,uO.trans C.uO,rF.trans C.rF⟩
 ·show bY (jv Y.bl n) m=(oS B n m).hC _;rw[AW C.key.nd];delta oS;by_cases q:m=n
  ·subst q;rw[et rfl,et rfl];rfl
  ·rw[dx λz=>q (b0.Ls.mp z).symm,dx q];exact C.LL m
 ·have h1:=AY (by rw[hg];rfl);have h2:=C.qj;rw[e,←h1,am.ep,am.o3]at h2;rw[am.ep];exact a5.Fy.zv h2
 ·have k:v∈Y.rl:=by
   rw[e];exact(am.uf.mp a).ef (am.zi _) λz=>am.xz _ (.sy _ z)
  refine aO (C.DE v k) λm x h1 h2=>⟨m,x,(dx λz=>?_).trans h1,h2⟩;subst z;obtain rfl:=bS.ap.zv (hb.symm.trans h1);exact f8 (h2▸a)
 ·obtain⟨q,h⟩:=jk h;have z:=C.r9 m x h;rw[e]at z;rcases am.uf.mp z with z |z
  ·exact am.zi _ z
  ·rcases am.hD.mp z with z |z
   ·injection z with _ z;exact kk z (C.ne hb h q)
   ·exact am.xz _ z
 ·obtain⟨q,h⟩:=jk h;rw[f,i];exact C.buf m x h
theorem CD.less(K:CD d Z B c)(a:cR U Z.g (oS B n) c)(D':aS U Z):CD U Z (oS B n) c:=⟨a,D',K.qE,λm x h=>K.cl m x (jk h).2,λm x h=>K.er m x (jk h).2,K.ER⟩
def J7:am S:=[.xD (.m (.v 2) 123 []) [.dl (.a (.v 0) 49) (.a (.v 2) 18),.dl (.a (.v 0) 48) (.v 1),.xB] []]
theorem yU{rl:am V}{P:H->Prop}{gK:H}:∀{su dL:am V} {j:a5} {a1 b1:V},(∀v,v∈su->∃n b,v=.bs 11 b.k/\d.ed 11 b.k=ap (pR n b)/\(b.sx≠0\/b.pins≠0))->d.ed 20 g=ap (.dG rl)->
  (∀f h,SB true 1 (bP [1,2] [.bn ((j+su.ah:a5):b0),.bs 11 k] [.bs 12 g,f,h]) d J7 (.rt .bk) [.bs 12 g,.bn ((j+su.ah:a5):b0),.bs 11 k] gK)->
  aV true 1 (λm=>m.ed 20 g=ap (.dG rl)) (λv vs cb=>∃ws,v=.KS ws/\ws.ah=[1,2].ah/\cb=bP [1,2] ws vs) J7 (fV j (su++ .bs 11 k::dL)) [.bs 12 g,a1,b1] d (.rt .bk) [.bs 12 g,.bn ((j+su.ah:a5):b0),.bs 11 k] gK:=by
 intro i
 induction i with
 |iv=>
  intro dL j a1 b1 c a hs;exact aV.Hy a ⟨_,rfl,rfl,rfl⟩ (hs a1 b1)
 |d2 v su l=>
  intro dL j a1 b1 c a hs;refine dQ (c v (.sk _)) λn b o h1 h2=>?_;subst o;have e:j+(V.bs 11 b.k::su).ah=j+1+su.ah:=by rw[am.o3];omega
  rw[e]at hs ⊢;have hf:=Aw (lp:=true) h1 h2;refine aV.d2 a ⟨_,rfl,rfl,rfl⟩ ?_ (l (a1:=.bn j) (b1:=.bs 11 b.k) (λv p=>c v (.sy _ p)) a hs);fail"%4G7$''$'++"
end
section
variable{lp:ct}{Q:a5}{d U:H}{Z:Mt}{B B':a5->bS Bf}{c g n m k p mt:a5}{b b':Bf}{dt o:am cy}{Y:CW}{P:Prop}
theorem zG{α:Type}{q:α->Prop}:∀{l:am α},(∃v,v∈l/\q v)->∃su v dL,l=su++v::dL/\q v/\∀w,w∈su->¬q w:=by
 intro b
 induction b with
 |iv=>exact λh=>h.ef λv z=>bC z.1
 |d2 a l c=>
  intro h;by_cases z:q a
  ·exact⟨[],a,l,rfl,z,λw y=>bC y⟩
  ·obtain⟨v,d,y⟩:=h;have f:=(am.hD.mp d).K0 λe=>z (e▸y);obtain⟨su,v,dL,e,y,w⟩:=c ⟨v,f,y⟩;exact⟨a::su,v,dL,b5 (a::·) e,y,λx g=>(am.hD.mp g).ef (λe=>e▸z) (w x)⟩
theorem wV{α:Type}{v:α}{dL:am α}:∀{su:am α},(su++v::dL).F5 su.ah=su++dL:=by
 intro b
 induction b with
 |iv=>rfl
 |d2 a l c=>exact b5 (a::·) c
theorem sS(K:CD d Z B c){ad:am a5}(l:ad.ah<=11)(hb:∀n b,B n=ap b->n∉ad->b.sx=0/\b.pins=0)
  (k1:CA true 2 45 [.bs 12 Z.g] d (.ok .bk d)->P) (k2:∀n b m,B n=ap b->b.sx=0->b.pins=0->CA true 2 45 [.bs 12 Z.g] d (.ok .bk m)->CD m Z (oS B n) c->Fr [20,21] d m->P):P:=by
 haveI h:=K.C.q.pu;haveI h1:=K.C.q.row;haveI h3:=K.C.q.BT;haveI o:=K.C.q.key.lim;haveI C:K.C.W.rl.ah<=aQ:=K.C.q.qj▸o;by_cases q:K.C.W.rl.ah<12
 ·haveI e:=dT (b0.hB.ow q);refine k1 (CA.up (n:=1) ?_ rfl);apply rt dC rfl rfl;fail"5R>J)&$',b$$&$'?$5";exact SS.xB
 ·have r:∃v,v∈K.C.W.rl/\∃n b,B n=ap b/\v=.bs 11 b.k/\b.sx=0/\b.pins=0:=z7.Gr λz=>q (by
   have:=pg (m:=ad.hC b0.kP) K.C.q.key.nd λx f=>by
    obtain⟨n,rfl⟩:=b0.eq_ofNat_of_zero_le (K.C.q.key.Kj x f).1;refine am.Ic (z7.Gr λy=>?_);cases a:B n with
    |bk=>exact mf.mp ((K.C.q.LL n).trans (by rw[a];rfl)) f
    |ap b=>exact z ⟨_,K.C.q.r9 n b a,n,b,a,rfl,hb n b a y⟩
   rw[am.fz,am.fz,←K.C.q.qj]at this;exact a5.JV (a5.bb this l))
  obtain⟨su,v,dL,e,⟨n,b,a,rfl,s,p0⟩,t⟩:=zG r;obtain⟨k,dt,h0,p⟩:=b;obtain rfl:h0=0:=s;obtain rfl:p=0:=p0;haveI D:=dF (p:=(K.C.W.rl.ah:b0)<12) λz=>q (b0.hB.mp z);haveI u:=(K.C.q.buf n _ a).1;haveI hf:=Av (lp:=true) u;haveI hg:bY K.C.W.bl n=ap (.bs 11 k):=(K.C.q.LL n).trans (by rw[a];rfl);have E:0+su.ah<K.C.W.rl.ah:=by rw[e,am.ep,am.o3,a5.pt];exact a5.wO (a5.succ_pos _)
  have hs:∀g i,SB true 1 (bP [1,2] [.bn ((0+su.ah:a5):b0),.bs 11 k] [.bs 12 Z.g,g,i]) d J7 (.rt .bk) [.bs 12 Z.g,.bn ((0+su.ah:a5):b0),.bs 11 k] ((d.fC 21 Z.g (.di (jv K.C.W.bl n))).fC 20 Z.g (.dG (K.C.W.rl.F5 (0+su.ah)))):=by
   intro g i;show SB true 1 [.bs 12 Z.g,.bn ((0+su.ah:a5):b0),.bs 11 k] d J7 _ _ _;fail"5RG7$''$'%";apply SS.dl;fail"&$'&$'";apply tu.di;fail"$$$%";apply SS.dl;fail"&$'(";apply tu.dG;fail"$$$5";exact SS.xB
  have ht:=yU (k:=k) (rl:=K.C.W.rl) (su:=su) (dL:=dL) (a1:=.i1) (b1:=.i1) (P:=λY=>Fw) (λv j=>?_) h1 hs
  ·rw[←e]at ht;refine k2 n _ _ a rfl rfl ?_ (K.less ⟨_,K.C.q.less (U:=(d.fC 21 Z.g (.di (jv K.C.W.bl n))).fC 20 Z.g (.dG (K.C.W.rl.F5 (0+su.ah)))) a e rfl ((a_ rfl).trans mx) (mx.trans ?_) rfl rfl rfl rfl⟩ (K.D.fr (S:=[20,21]) (.fC rfl (.fC rfl .hJ)) rfl)) (.fC rfl (.fC rfl .hJ))
   ·apply rt dC rfl rfl;fail"%4>J)&$',b$$&$'?$+5";apply SS.fr;fail"j&$'$";exact ht
   ·rw[a5.pt,e,wV]
  ·have A:v∈K.C.W.rl:=by rw[e];exact am.zi _ j
   refine aO (K.C.q.DE v A) λm x q1 q2=>⟨m,x,q2,(K.C.q.buf m x q1).1,?_⟩;by_cases y:x.sx=0
   ·exact .wl λw=>t v j ⟨m,x,q1,q2,y,w⟩
   ·exact .u0 y
end
def dat(Z:Mt)(B:a5->bS Bf)(n:a5):am cy:=match B n with |ap b=>b.hy |bk=>GS Z.bA Z.hT n
def c_(B:a5->bS Bf)(n:a5):a5:=match B n with |ap b=>b.pins |bk=>0
def LM(B:a5->bS Bf)(n:a5):Prop:=∀b,B n=ap b->b.sx=0/\b.pins=0
section
variable{lp:ct}{Q:a5}{d U m1:H}{Z:Mt}{B B' B1:a5->bS Bf}{c g n m k p mt:a5}{b b':Bf}{dt o:am cy}{Y:CW}{P:Prop}
theorem vz{t k':a5}{o:O}(h:k'≠d.gz t):(d.hM t o).ed t k'=d.ed t k':=dx λz=>h z.2
theorem qb{x:Bf}(h:up B n b m=ap x):(m=n/\x=b)\/(m≠n/\B m=ap x):=by
 delta up at h
 split at h
 ·rename_i q;exact .u0 ⟨q,(bS.ap.zv h).symm⟩
 ·rename_i q;exact .wl ⟨q,h⟩
theorem xd(K:CD d Z B c)(hn:n<Z.nb)(hb:B n=ap ⟨k,dt,0,p⟩):Out true 3 44 [.bs 12 Z.g,.bn n] d (.bs 11 k) λm=>CD m Z (up B n ⟨k,dt,1,p⟩) c/\Fr [11,12,20,21,22] d m:=by
 haveI h0:=lg (lp:=true) K hn;haveI h1:=K.C.q.pu;haveI h2:=K.C.q.BT;haveI h3:=K.C.q.LL n;haveI a:=wo (a5.ew hn K.D.q.nb);haveI h4:=(K.C.q.buf n _ hb).1;rw[hb]at h3;haveI e:(bY K.C.W.bl n).ww .bk=.bs 11 k:=by rw[h3];rfl
 apply EQ
 ·apply rt i0 rfl rfl;fail"%27$''*$'%9O_&$'Y";apply lF.zx;fail"$$$%48";exact aq.ud (iD V.b4);fail"'%a($'=d$'0+%a($'=d$'05L"
 ·exact⟨K.turn (K.C.q.x8 hb rfl mx (K.C.q.buf n _ hb).2.1 (K.C.q.buf n _ hb).2.2.1 (λY z=>fM z) (λY Y=>rfl) ((a_ rfl).trans mx) rfl K.C.q.row rfl (λY=>Iff.rfl) K.C.q.tx rfl rfl) (K.D.fr (S:=[11,12]) (.fC rfl (.fC rfl .hJ)) rfl) hb (λz=>kk z a5.Kg),.fC rfl (.fC rfl .hJ)⟩
theorem oq(K:CD d Z B c)(hn:n<Z.nb)(hb:B n=bk)(j:CA true 2 45 [.bs 12 Z.g] d (.ok .bk m1))(a:CD m1 Z B1 c)(g:B1 n=bk)(fr:Fr [20,21] d m1):Out true 3 44 [.bs 12 Z.g,.bn n] d (.bs 11 c) λm=>CD m Z (up B1 n ⟨c,GS Z.bA Z.hT n,1,0⟩) (c+1)/\Fr [11,12,20,21,22] d m:=by
 haveI h0:=lg (lp:=true) K hn;haveI h1:=K.C.q.pu;haveI h2:=K.C.q.BT;haveI h3:=K.C.q.LL n;haveI f:=a5.ew hn K.D.q.nb;haveI k:=wo f;haveI l:=K.C.q.key.lim;haveI i:=a.C.q.uO;subst i;rw[hb]at h3;haveI e:(bY K.C.W.bl n).ww .bk=.bk:=by rw[h3];rfl
 haveI h5:=CZ (lp:=true) a.D a.qE hn;haveI h6:=C6 (lp:=true) (n:=n) (o:=GS Z.bA Z.hT n) (d:=m1) rfl a.C.q.rF (K.ER n);haveI h7:=a.C.q.row;haveI p:=a.D.q.dy;haveI q:=a.C.q.pu;haveI r:=a.C.q.BT;haveI s:=a.C.q.key.lim;haveI t:a.C.W.rl.ah+1<=aQ:=a.C.q.qj▸a5.bb (a5.ic a.C.q.key.ER) av;apply EQ
 ·apply rt i0 rfl rfl;fail"%27$''*$'%9O_&$'Y";apply lF.zx;fail"$$$%R8";exact aq.Fq;fail"'%27$''$%9";apply xk;fail")()<&$'$''*$','*$'%a($'=d$'0%T(^&.'(";apply gB.di;fail"$$$%2_&"
  (repeat first |exact a4.mx |assumption |refine(a4.K.a_ rfl).trans ?_ |refine(a4.K.bz rfl).trans ?_);fail"'Yz$"
  fail"$$+%a(";(repeat first |exact a4.mx |exact a4.K.aK |assumption |refine(a4.K.a_ rfl).trans ?_ |refine(a4.K.bz rfl).trans ?_);fail"'=d"
  (repeat first |exact a4.mx |exact a4.K.aK |assumption |refine(a4.K.a_ rfl).trans ?_ |refine(a4.K.bz rfl).trans ?_);fail"'05L"
 ·refine⟨?_,.fC rfl (.fC rfl (.fC rfl (.fC rfl (.HG rfl (fr.hA rfl)))))⟩;refine⟨a.C.q.HI (b:=⟨_,GS Z.bA Z.hT n,1,0⟩) g f rfl mx (et ⟨rfl,a.C.q.rF.symm⟩) (K.ER n) (λY z=>(fM z).trans (vz z)) (λY z=>vz λy=>z (y.trans a.C.q.rF)) ((a_ rfl).trans ((a_ rfl).trans ((a_ rfl).trans mx))) ((a_ rfl).trans ((a_ rfl).trans mx)) ((a_ rfl).trans mx) rfl (b5 (·+1) a.C.q.rF),a.D.fr (S:=[11,12,20,21,22]) (.fC rfl (.fC rfl (.fC rfl (.fC rfl (.HG rfl .hJ))))) rfl,K.qE,λm x h=>?_,λm x h=>?_,K.ER⟩
  ·rcases qb h with⟨_,rfl⟩ |⟨_,h⟩
   ·exact λz=>kk z a5.Kg
   ·exact a.cl m x h
  ·rcases qb h with⟨e,_⟩ |⟨_,h⟩
   ·exact ab e hn
   ·exact a.er m x h
theorem Ar(K:CD d Z B c)(hn:n<Z.nb){ad:am a5}(o:ad.ah<=11)(hb:∀n b,B n=ap b->n∉ad->b.sx=0/\b.pins=0)(hf:∀b,B n=ap b->b.sx=0)
  (j:∀m B' r k,CA true 3 44 [.bs 12 Z.g,.bn n] d (.ok (.bs 11 k) m)->CD m Z B' r->B' n=ap ⟨k,dat Z B n,1,c_ B n⟩->(∀i,i≠n->B' i=B i\/B' i=bk/\LM B i)->Fr [11,12,20,21,22] d m->P):P:=by
 cases e:B n with
 |ap b=>
  obtain⟨k,dt,h,p⟩:=b;obtain rfl:h=0:=hf _ e;have a:=xd K hn e;have f:dat Z B n=dt:=by unfold dat;rw[e]
  have g:c_ B n=p:=by unfold c_;rw[e]
  exact j _ _ _ k a.ca a.q.1 (by rw[f,g];exact bB) (λi h=> .u0 (cf h)) a.q.2
 |bk=>
  have f:dat Z B n=GS Z.bA Z.hT n:=by unfold dat;rw[e]
  have g:c_ B n=0:=by unfold c_;rw[e]
  refine sS K o hb (λh=>?_) λl u m h1 h2 h3 h4 s fr=>?_
  ·have a:=oq K hn e h K e .hJ;exact j _ _ _ _ a.ca a.q.1 (by rw[f,g];exact bB) (λi h=> .u0 (cf h)) a.q.2
  ·have t:oS B l n=bk:=by delta oS;split<;>first |rfl |exact e
   have a:=oq K hn e h4 s t fr;refine j _ _ _ _ a.ca a.q.1 (by rw[f,g];exact bB) (λi h=>?_) a.q.2;rw[cf h];by_cases z:i=l
   ·subst z;exact .wl ⟨et rfl,λb q=>by rw[h1]at q;cases q;exact⟨h2,h3⟩⟩
   ·exact .u0 (dx z)
end
def CS:am a5:=[11,12,13,20,21,22,23,24,25]
section
variable{lp:ct}{Q:a5}{d U m1:H}{Z:Mt}{B B' B1:a5->bS Bf}{c g n m k p mt:a5}{b b':Bf}{dt o:am cy}{Y:CW}{P:Prop}
theorem cR.Px(C:cR d g B c){hi re wr:b0}:cR (d.fC 12 g (fE g hi re wr)) g B c:=⟨⟨hi,re,wr,_,_⟩,mx,(a_ rfl).trans C.q.BT,C.q.key,C.q.LL,(a_ rfl).trans C.q.row,C.q.qj,C.q.tx,C.q.DE,C.q.r9,C.q.buf,C.q.uO,C.q.rF⟩
theorem Az(K:CD d Z B c)(hb:B n=ap ⟨k,dt,1,p⟩)(b:Z.w<=aQ)(e:Z.bA.ah+1<=aQ)
  (f:∀m,CA true 3 49 [.bs 12 Z.g,.bs 11 k] d (.ok .bk m)->CD m (Z.wrote n dt) B c->Fr [12,13,23,24,25] d m->P) (g:∀m,CA true 3 49 [.bs 12 Z.g,.bs 11 k] d (.exc 5 m)->aS m Z.jt->Fr [12,13,23,24,25] d m->P):P:=by
 haveI h0:=fZ (lp:=true) K.C hb;haveI h:=K.C.q.pu;refine xN (K.C.q.buf n _ hb) λh2 h3 h4 Y=>?_;haveI h5:=pP (lp:=true) h2 h3 h4;haveI j:=K.D.q.dy;refine Ax K.D K.qE (K.er n _ hb) h4 b e (λm1 h6 D1 a=>?_) (λm1 h6 D1 a=>?_)
 ·haveI h7:=Fr.at a h rfl;refine f ?m1 ?c1 ?a1 ?b1
  case c1=>
   apply nx gq rfl rfl;fail"%27$''*$'%2m&$'$')&$')7$''*$',*$'%a($'=d$'0+"
  case a1=>
   refine⟨(K.C.fr a rfl).Px,D1.fr (S:=[12]) (.fC rfl .hJ) rfl,K.qE,λi x q y z=>?_,K.er,λi=>?_⟩
   ·show x.hy=GS (Z.bA++[(n,dt)]) Z.hT i;rw[mX,aJ (λw=>by subst w;rw[hb]at q;cases q;exact kk y a5.Kg)];exact K.cl i x q y z
   ·show(GS (Z.bA++[(n,dt)]) Z.hT i).ah=48;rw[mX];delta wr
    split
    ·exact h4
    ·exact K.ER i
  case b1=>exact .fC rfl (a.hA rfl)
 ·refine g _ ?_ D1 (a.hA rfl);apply ex gq rfl rfl;fail"%27$''*$'Q]m&$'$')&$')7$''*$',*$'"
theorem AB(K:CD d Z B c)(b:Z.w<=aQ)
  (e:∀m,CA true 3 50 [.bs 12 Z.g] d (.ok .bk m)->CD m Z.flushed B c->Fr DS d m->P) (f:∀m,CA true 3 50 [.bs 12 Z.g] d (.exc 5 m)->aS m Z.jt->Fr DS d m->P):P:=by
 haveI h:=K.C.q.pu;haveI h7:=K.D.q.dy;refine Ay K.D K.qE b (λm1 h6 D1 a=>?_) (λm1 h6 D1 a=>?_)
 ·refine e m1 ?_ ⟨K.C.fr a rfl,D1,K.qE,K.cl,K.er,K.ER⟩ a;apply nx gr rfl rfl;fail"%2<&$'$''*$'+"
 ·refine f m1 ?_ D1 a;apply ex gr rfl rfl;fail"Q]<&$'$''*$'"
theorem DB:up (up B n b) n b'=up B n b':=funext λm=>by
 unfold up
 split<;>rfl
theorem i6(K:CD d Z B c)(hf:∀b,B n=ap b->b.sx=0)(e:c_ B n=0):dat Z B n=GS Z.bA Z.hT n:=by
 delta dat c_ at*;cases a:B n with
 |bk=>rfl
 |ap b=>rw[a]at e;exact K.cl n b a (hf b a) e
theorem Am(K:CD d Z B c)(hn:n<Z.nb){ad:am a5}(g:ad.ah<=11)(hb:∀n b,B n=ap b->n∉ad->b.sx=0/\b.pins=0)(hf:∀b,B n=ap b->b.sx=0)
  (j:∀m B' a k,CA true 4 51 [.bs 12 Z.g,.bn n] d (.ok (.d3 (dat Z B n)) m)->CD m Z B' a->B' n=ap ⟨k,dat Z B n,0,c_ B n⟩->(∀i,i≠n->B' i=B i\/B' i=bk/\LM B i)->Fr [11,12,20,21,22] d m->P):P:=by haveI h:=K.C.q.pu;refine Ar K hn g hb hf λm B' a k h1 e f hi l=>xN (e.C.q.buf n _ f) λh2 h3 h4 Y=>?_;haveI h5:=pP (lp:=true) h2 h3 h4;haveI h6:=e.C.q.pu;haveI o2:=l_ (lp:=true) e f (λz=>i6 K hf z);haveI h7:=o2.ca;refine j o2.m _ a k ?_ o2.q.1 bB (λi q=>by rw[cf q];exact hi i q) (l.trans (o2.q.2.hA rfl));apply rt k7 rfl rfl;fail"%97$''*$'%97$''*$'%27$''*$'5L"
end
section
variable{lp:ct}{Q:a5}{d U m1:H}{Z:Mt}{B B' B1:a5->bS Bf}{c g n m k p mt:a5}{b b':Bf}{dt o:am cy}{Y:CW}{P:Prop}
theorem Gb(K:CD d Z B c)(hn:n<Z.nb){ad:am a5}(t:ad.ah<=11)(hb:∀n b,B n=ap b->n∉ad->b.sx=0/\b.pins=0)(hf:∀b,B n=ap b->b.sx=0)(j:o.ah=48)(u:Z.w<=aQ)(v:Z.bA.ah+1<=aQ)
  (w:∀m B' e k,CA true 4 52 [.bs 12 Z.g,.bn n,.d3 o] d (.ok .bk m)->CD m (Z.wrote n o) B' e->B' n=ap ⟨k,o,0,c_ B n⟩->(∀i,i≠n->B' i=B i\/B' i=bk/\LM B i)->Fr CS d m->P)
  (x:∀m,CA true 4 52 [.bs 12 Z.g,.bn n,.d3 o] d (.exc 5 m)->aS m Z.jt->Fr CS d m->P):P:=by
 haveI h:=K.C.q.pu;refine Ar K hn t hb hf λm B' e k h1 f l hi p=>?_;refine xN (f.C.q.buf n _ l) λh2 h3 h4 Y=>?_;haveI h5:=Gi (lp:=true) h2 h3 h4 j;haveI y:=A2 f l j;haveI h6:=f.C.q.pu;refine Az y bB u v (λr h7 s g=>?_) (λr h7 A g=>?_)
 ·haveI a:=l_ (lp:=true) s bB (λz=>by
   show o=GS (Z.bA++[(n,o)]) Z.hT n;rw[mX];exact aW.symm)
  haveI C:=a.ca;haveI D:=s.C.q.pu;refine w a.m _ e k ?_ a.q.1 bB (λi q=>by rw[cf q,cf q];exact hi i q) ((p.hA rfl).trans ((Fr.fC rfl .hJ).trans ((g.hA rfl).trans (a.q.2.hA rfl))));apply nx hV rfl rfl;fail"%97$''*$'%27$''*$'%27$''*$'%27$''*$'+"
 ·refine x r ?_ A ((p.hA rfl).trans ((Fr.fC rfl .hJ).trans (g.hA rfl)));apply ex hV rfl rfl;fail"%97$''*$'%27$''*$'Q]7$''*$'"
end
instance:ru Mt:=⟨⟨0,0,0,0,bk,bk,λZ=> [],[],false⟩⟩
def dp(g i j c:a5)(cm:b0):O:=.qD [(81,.bs 12 g),(101,.bn 2),(6,.bn 8),(80,.bn 7),(28,.bn 7),(42,.bn 7),(102,.bs 26 i),(103,.bs 27 j),(104,.bn c),(105,.bn cm)]
structure JW where
 i:a5
 j:a5
 cm:b0
 nl:am (b0×V)
abbrev iV(n:a5):V:=.bn n
structure Er(d:H)(g:a5)(ns:am a5)(a:a5)(W:JW):Prop where
 iP:d.ed 17 g=ap (dp g W.i W.j a W.cm)
 nums:d.ed 26 W.i=ap (.dG (ns.hC iV))
 yM:d.ed 27 W.j=ap (.di W.nl)
 BX:W.nl.ah=ns.ah
 JZ:∀n:a5,(bY W.nl n).z_=ns.b6 n
 ER:ns.ah<=7
def cQ(d:H)(g:a5)(ns:am a5)(a:a5):Prop:=∃W,Er d g ns a W
structure FS(d:H)(Z:Mt)(B:a5->bS Bf)(c:a5)(ns:am a5)(a:a5):Prop where
 K:CD d Z B c
 J:cQ d Z.g ns a
 wY:Z.bA=[]
 pin:∀n b,B n=ap b->b.pins=if ns.b6 n then 1 else 0
 has:∀n,n∈ns->B n≠bk/\10<=n
def aY(ns:am a5)(n:a5):am a5:=if ns.b6 n then ns else ns++[n]
section
variable{lp:ct}{d U:H}{B B':a5->bS Bf}{c g n m k p mt a:a5}{Z:Mt}{b b':Bf}{dt o:am cy}{ns:am a5}
def cQ.W(J:cQ d g ns a):JW:=J.choose
theorem cQ.q(J:cQ d g ns a):Er d g ns a J.W:=J.choose_spec
theorem cQ.fr(J:cQ d g ns a){S:am a5}(h:Fr S d U)(e:(S.b6 17 ||S.b6 26 ||S.b6 27)=false):cQ U g ns a:=by haveI b:=ct.kb.mp e;haveI c:=ct.kb.mp b.1;obtain⟨W,a1,f,i,j,k,l⟩:=J;rw[←(h.go 17 c.1).1]at a1;rw[←(h.go 26 c.2).1]at f;rw[←(h.go 27 b.2).1]at i;exact⟨W,a1,f,i,j,k,l⟩
theorem CD.fr(K:CD d Z B c){S:am a5}(h:Fr S d U)(e:(S.b6 11 ||S.b6 12 ||S.b6 20 ||S.b6 21 ||S.b6 22)=false)(a:(S.b6 13 ||S.b6 23 ||S.b6 24 ||S.b6 25)=false):CD U Z B c:=⟨K.C.fr h e,K.D.fr h a,K.qE,K.cl,K.er,K.ER⟩
theorem tm:(ns++[n]).b6 m=(ns.b6 m ||(m==n)):=by rw[ct.eq_iff_iff,ct.or_eq_true,am.fA,am.fA,am.uf,am.e0,wn]
theorem sT(J:cQ d g ns a)(h1:10<=n):CA lp 1 106 [.bs 17 g,.bn n] d (.ok (.gg false) d):=by haveI h:=J.q.iP;haveI b:=dT (show(2:b0)<=n from b0.sp.ow (a5.bb av h1));refine CA.vl ?_ (b5 V.gg (dF (b0.to.ow (b0.sp.ow h1))));apply rt gP rfl rfl;fail"5C";apply EX.oi;fail"&$'({$;&$'&$'6?"
theorem Gg(J:cQ d g ns a):CA lp 1 108 [.bs 17 g] d (.ok (.bn (7 - ns.ah)) d):=by
 haveI h:=J.q.iP;haveI h1:=J.q.nums;haveI b:(ns.hC iV).ah<=aQ:=by rw[am.fz];exact a5.bb J.q.ER av
 refine CA.vl (v:=.bn (7 - ((ns.hC iV).ah:a5))) ?_ (by rw[am.fz]);apply rt iY rfl rfl;fail"5C;&$'J)&$',b$$W"
theorem uL(J:cQ d g [] 0):CA lp 1 107 [.bs 17 g] d (.ok (.gg true) d):=by haveI h:=J.q.iP;haveI h1:=J.q.nums;haveI a:(([]:am a5).hC iV).ah<=aQ:=a5.ri _;haveI b:aP ((((0:a5):b0))+1):=jA (by decide) (by decide);refine CA.vl ?_ rfl;apply rt fx rfl rfl;fail"5C";apply EX.mc;fail";J)&$',b$";decide;fail";A&$''6&$'Z$6&$'{"
theorem C7(F:FS d Z B c [] 0):Out lp 2 109 [.bs 17 Z.g] d .bk λU=>FS U Z B c [] 1/\Fr [17] d U:=by
 haveI h:=F.J.q.iP;haveI h0:=uL (lp:=lp) F.J;apply EQ
 ·apply nx iq rfl rfl;fail"%4fG7$''*$''+%a($'=d$'0+"
 ·exact⟨⟨F.K.fr (S:=[17]) (.fC rfl .hJ) rfl rfl,⟨_,mx,F.J.q.nums,F.J.q.yM,F.J.q.BX,F.J.q.JZ,F.J.q.ER⟩,F.wY,F.pin,F.has⟩,.fC rfl .hJ⟩
abbrev kg:Prop:=∀(F:FS d Z B c ns 1) (hb:B n=ap ⟨k,dt,1,p⟩) (a:10<=n) (b:ns.ah<=6),Out lp 3 110 [.bs 17 Z.g,.bs 11 k] d .bk λU=>FS U Z (up B n ⟨k,dt,1,1⟩) c (aY ns n) 1/\Fr [11,17,26,27] d U
theorem Aq:∀{lp d B c n k p Z dt ns},@kg lp d B c n k p Z dt ns:=by
 refine λ{lp d B c n k p Z dt ns}=>cK (q:=kD @kg) ((?_:∀lp d B c n k p Z dt ns,@kg lp d B c n k p Z dt ns) _ _ _ _ _ _ _ _ _ _) (lp,d,B,c,n,k,p,Z,dt,ns);intro lp d B c n k p Z dt ns F hb f a;haveI h:=F.J.q.iP;haveI h1:=F.J.q.nums;haveI h2:=F.J.q.yM;haveI h3:=(F.K.C.q.buf n _ hb).1;haveI h4:=sT (lp:=lp) F.J f;haveI g:=F.pin n _ hb;haveI h5:=F.J.q.JZ n;cases q:ns.b6 n with
 |true=>
  rw[q]at h5 g;obtain rfl:p=1:=g;haveI h6:=fZ (lp:=lp) F.K.C hb;haveI h7:=F.K.C.q.pu;haveI e:up B n ⟨k,dt,1,1⟩=B:=funext λm=>by
   unfold up
   split
   ·rename_i z;exact ab z (ab hb rfl)
   ·rfl
  rw[e,show aY ns n=ns by unfold aY;rw[q];rfl];apply EQ
  ·apply rt ez rfl rfl;fail"%4B&$''D'+%4GP$')&$',*$''+5R>&$'&$'";apply aq.inD;fail"$$%2<&$'$''*$'5";exact SS.xB
  ·exact⟨F,.hJ⟩
 |false=>
  rw[q]at h5 g;obtain rfl:p=0:=g;rw[show aY ns n=ns++[n] by unfold aY;rw[q];rfl];haveI h6:=Je (lp:=lp) F.K hb;haveI h7:=F.K.C.q.pu;haveI i:(ns.hC iV).ah<=aQ:=by rw[am.fz];exact a5.bb F.J.q.ER av
  haveI e:=dF (show¬(7:b0)<=((ns.hC iV).ah:a5) by rw[am.fz];exact b0.Km.ow (b0.hB.ow (a5.JV a)));haveI j:=wo (F.K.C.q.Lr hb);haveI l:F.J.W.nl.ah<=aQ:=F.J.q.BX▸a5.bb F.J.q.ER av;haveI o:(ns.hC iV).ah+1<=aQ:=by rw[am.fz];exact a5.bb (a5.ic F.J.q.ER) av
  apply EQ
  ·apply nx ez rfl rfl;fail"%4B&$''D'+%4GP$')&$',*$''+%4>&$'&$'";apply aq.inD;fail"$$+%4>J)&$',b$$&$'n$+%2<&$'$''*$'%TJ)&$',b$$^&$'&.'";apply gB.di;fail"$$$%2_&$')&.',z$$$+"
  ·refine⟨⟨(Ep F.K hb λz=>kk z a5.Kg).fr (S:=[26,27]) (.fC rfl (.fC rfl .hJ)) rfl rfl,⟨⟨F.J.W.i,F.J.W.j,F.J.W.cm,ee F.J.W.nl n (.bn (ns.hC iV).ah)⟩,F.J.q.iP,mx.trans (by exact ab am.LI rfl),(a_ rfl).trans mx,?_,λm=>?_,?_⟩,F.wY,λm b z=>?_,λm z=>?_⟩,.fC rfl (.fC rfl (.fC rfl .hJ))⟩
   ·haveI z:bY F.J.W.nl n=bk:=bS.isSome_eq_false_iff.mp h5 |>bS.Hx.mp;exact ti▸z▸am.ep▸F.J.q.BX▸rfl
   ·refine ab oI (ab tm ?_);clear o l j e i h7 h6 q h5 h4 h3 h2 h1 h a f hb;by_cases z:n=m
    ·refine ab ((et (b5 _ z))) ?_;rw[z,Bb,ct.or_true];rfl
    ·refine((dx λy=>z (b0.Ls.mp y)))▸?_;rw[F.J.q.JZ m,ki.ow (Ne.symm z),ct.or_false]
   ·exact am.ep▸(a5.ic a)
   ·refine tm▸?_;clear o l j e i h7 h6 q h5 h4 h3 h2 h1 h a f hb;by_cases y:m=n
    ·clear lp F;subst y;obtain rfl:=bS.ap.zv (bB.symm.trans z);rw[Bb,ct.or_true];rfl
    ·refine((ki.ow y))▸?_;rw[ct.or_false];exact F.pin m b ((cf y).symm.trans z)
   ·clear o l j e i h7 h6 q h5 h4 h3 h2 h1 h a hb;rcases am.uf.mp z with z |z
    ·exact⟨λy=>(F.has m z).1 (qc y),(F.has m z).2⟩
    ·clear lp F;obtain rfl:=am.e0.mp z;exact⟨λy=>((oP (bB.symm.trans y))),f⟩
end
theorem Gx(n i:a5):b0.kP ((((n:b0))/2^((8*(i:b0)).fo)).fo&&&(255:b0).fo)=((cy.kP (n/2^(8*i))).fo:b0):=by
 haveI e:((n:b0))/2^((8*(i:b0)).fo)=((n/2^(8*i):a5):b0):=by
  rw[show(8*(i:b0)).fo=8*i from rfl,b0.natCast_ediv,b0.natCast_pow];rfl
 refine ab e ?_;show b0.kP ((n/2^(8*i))&&&255)=_;rw[show(255:a5)=2^8 - 1 from rfl,a5.sV];rfl
def le(c n:a5):am cy:=(am.range c).hC λi=>cy.kP (n/2^(8*i))
def gF:am a5->am cy
 | []=> []
 |n::r=>le 4 n++gF r
theorem jl:∀{l:am a5},(gF l).ah=4*l.ah:=by
 intro a
 induction a with
 |iv=>rfl
 |d2 n l b=>show(le 4 n++gF l).ah=_;rw[am.ep,b,am.o3,a5.mul_succ,a5.tz];rfl
def bL(ns:am a5):am cy:=gF (ns.ah::ns)++am.f7 (48 - (gF (ns.ah::ns)).ah) 0
section
variable{lp:ct}{d U:H}{c I n m k p f q Q oa:a5}{b:am cy}{dt o:am cy}{ns:am a5}{vs:am V}{el:X}
theorem zZ{g:a5->V}(h:∀i,i<c->EX true Q (vs.fC oa (.bn i)) d el (.ok (g i) d)):bH Q (λZ=>Fw) oa el [] vs (jo 0 1 c) d ((am.range c).hC g) d:=by
 haveI:∀l:am a5,(∀i,i∈l->i<c)->bH Q (λZ=>Fw) oa el [] vs (l.hC λ(i:a5)=>V.bn (0+1*(i:b0))) d (l.hC g) d:=λl=>by
  induction l with
  |iv=>exact λZ=> .iv trivial
  |d2 a l e=>
   intro b;refine .m0 trivial EA.iv ?_ (e λi z=>b i (.sy _ z));dsimp only;rw[b0.one_mul,b0.pt];exact h a (b a (.sk _))
 exact this _ λi z=>am.mem_range.mp z
theorem yz{qn qs:V}{l3:am V}:∀{l:am a5} {d:H} {a:V} {b:am cy},d.ed 33 q=ap (.dG l3)->d.ed 31 f=ap (.aB b)->b.ah+4*l.ah<=100->
  ∃c U b',aV true 0 (λm=>m.ed 33 q=ap (.dG l3)) (λv vs cb=>cb=vs.fC 3 v) [.ex (.m (.v 2) 3 [.bi 3 [.lc (.b .GZ (.b .RShift (.v 3) (.b .H3 (.c (.bn 8)) (.v 4))) (.c (.bn 255))) 4 (.er [.g (.bn 4)]) []]])] (l.hC iV) [qn,qs,.bs 31 f,a,.i1] d .nx [qn,qs,.bs 31 f,c,.i1] U/\U.ed 31 f=ap (.aB b')/\b'=b++gF l/\Fr [30,31] d U:=by
 intro e
 induction e with
 |iv=>
  intro d a b h1 h2 h3;exact⟨_,_,_,.iv h1,h2,(am.x6 _).symm,.hJ⟩
 |d2 n l h=>
  intro d a b h1 h2 h3;haveI u:bH 0 (λZ=>Fw) 4 (.b .GZ (.b .RShift (.v 3) (.b .H3 (.c (.bn 8)) (.v 4))) (.c (.bn 255))) [] [qn,qs,.bs 31 f,iV n,.i1] (jo 0 1 4) d ((le 4 n).hC bI) d:=zZ (g:=λi=>bI (cy.kP (n/2^(8*i)))) λi hi=>by
   haveI j:0<=8*(i:b0):=by exact b0.dv _
   haveI k:0<=(n:b0)/2^(8*(i:b0)).fo:=b0.ediv_nonneg (b0.dv _) (b0.l6 (b0.pow_pos (by decide)));refine EX.as ?_ (b5 V.bn (Gx n i));fail";;(;=(";exact au.mul (jA (by decide) (by decide));exact au.shr j;fail"=";exact au.land k (by decide)
  have o:=a5.bb (a5.kQ (show 4<=4*(l.ah+1) by exact a5.le_add_left _ _) _) h3;haveI w:b.ah+(le 4 n).ah<=aQ:=a5.bb o (by decide);haveI x:(le 4 n).ah<=aQ:=show 4<=aQ by decide
  haveI y:(jo 0 1 4).ah<=1000000:=by decide
  haveI z:aP 4:=jA (by decide) (by decide);obtain⟨c,U,b',p,r,s,t⟩:=h (d:=(d.hM 30 (.dG ((le 4 n).hC bI))).fC 31 f (.aB (b++le 4 n))) (a:=iV n) h1 mx (by rw[am.ep];show b.ah+4+4*l.ah<=100;rw[am.o3]at h3;exact a5.AC _ _ _▸(by assumption));refine xJ c U b' (.d2 h1 rfl ?_ p) r (s.trans ?_) ((Fr.fC rfl (.hM rfl .hJ)).trans t)
  ·
   fail"%2_()J)";apply EX.lc (ce:=30);apply IT.er;fail"Y";apply rG.one;fail"$";decide;fail"$,";apply bJ.uP;fail".$,";apply lF.zL;fail"$$$+"
  ·exact am.sN ..
theorem o6{s i:a5}(h:d.ed s i=ap (.dG (ns.hC iV)))(hs:[30,31,33,34,35].b6 s=false)(hn:ns.ah<=7):(bL ns).ah=48/\Out true 1 104 [.bs s i,.bn 48] d (.d3 (bL ns)) λU=>Fr [30,31,33,34,35] d U:=by
 haveI m:(d.hM 31 (.aB [])).ed s i=ap (.dG (ns.hC iV)):=(Gc ((Fr.hM (S:=[30,31,33,34,35]) rfl .hJ).go s hs).1 i).trans h;haveI n:((d.hM 31 (.aB [])).hM 34 (.dG [iV (ns.hC iV).ah])).ed s i=ap (.dG (ns.hC iV)):=(Gc ((Fr.hM (S:=[30,31,33,34,35]) rfl (.hM rfl .hJ)).go s hs).1 i).trans h;haveI o:(ns.hC iV).ah<=aQ:=by rw[am.fz];exact a5.bb hn av
 haveI p:=dF (show¬(48:b0)<4*(((ns.hC iV).ah:a5)+1) by rw[am.fz];exact b0.to.ow (b0.sp.ow (a5.bb (a5.qy 4 (a5.ic hn)) (by decide))));haveI r:aP 4:=jA (by decide) (by decide);haveI t:[V.bn ((ns.hC iV).ah:a5)].ah+(ns.hC iV).ah<=aQ:=by rw[am.fz];exact a5.bb (a5.kQ hn 1) (by decide)
 refine wb (yz (qn:=.bs s i) (qs:=.bn 48) (l3:=((ns.hC iV).ah::ns).hC iV) (q:=d.gz 33) (f:=d.gz 31) (a:=.i1) (b:=[]) (l:=(ns.hC iV).ah::ns) (d:=(((d.hM 31 (.aB [])).hM 34 (.dG [iV (ns.hC iV).ah])).hM 35 (.dG (ns.hC iV))).hM 33 (.dG (((ns.hC iV).ah::ns).hC iV))) kN kN (by show 0+4*(ns.ah+1)<=100;lia)) λu dw b' v w g j=>?_;have e:b'=gF (ns.ah::ns):=by rw[g,am.fz];rfl
 haveI c:b'.ah<=32:=by rw[e,jl];exact a5.qy 4 (a5.ic hn)
 have k:bL ns=b'++am.f7 (48 - b'.ah) 0:=by rw[e];rfl
 rw[k];haveI x:V.bn (48 - (b'.ah:b0))=V.bn ((48 - b'.ah:a5):b0):=b5 V.bn (b0.ofNat_sub (a5.bb c (by decide))).symm;haveI y:b'.ah<=aQ:=a5.bb c av;haveI z:48 - b'.ah<=aQ:=a5.bb (a5.sub_le ..) av;haveI A:b'.ah+(am.f7 (48 - b'.ah) (0:cy)).ah<=aQ:=by refine ab am.Fk ?_;exact a5.bb (a5.mZ (a5.add_sub_cancel' (a5.bb c (by decide:32<=48)))) av
 refine⟨(by refine ab am.ep (ab am.Fk ?_);exact a5.add_sub_cancel' (a5.bb c (by decide))),?_⟩;apply EQ
 ·apply rt jE rfl rfl;fail"%4B;";exact gi;fail"AIb$$'6Z$'e$+%9J,";exact bJ.NL (ce:=31);fail"%";apply SS.lT;apply IT.of;fail";";apply EX.ls (ce:=34);fail")Ib$$,";exact a5.ft rfl;fail"I";apply bJ.HN (ce:=35);fail"$$";apply au.dG (ce:=33);fail"..$";apply Es.dG;fail".$5C;I";apply bJ.uR;fail"$$J)O;(I";apply bJ.y7;fail"$$W$,";apply bJ.uQ;fail"$";apply au.d3;fail"$"
 ·exact Fr.trans (.hM rfl (.hM rfl (.hM rfl (.hM rfl .hJ)))) (j.hA rfl)
end
structure Dt(d:H)(Z:Mt)(D:Oc)(ns:am a5)(B:a5->bS Bf)(c:a5):Prop where
 K:CD d Z B c
 pin:∀n,n∈ns->∃k,B n=ap ⟨k,D n,0,1⟩
 LM:∀n b,B n=ap b->n∉ns->b.sx=0/\b.pins=0
def CE(d:H)(Z:Mt)(D:Oc)(ns:am a5):Prop:=∃B c,Dt d Z D ns B c
section
variable{d U:H}{Z:Mt}{D:Oc}{ns:am a5}{B:a5->bS Bf}{c n:a5}{o:am cy}{P:Prop}
theorem Dt.j2(L:Dt d Z D ns B c):∀n b,B n=ap b->b.sx=0:=λn b q=>by
 by_cases z:n∈ns
 ·obtain⟨k,e⟩:=L.pin n z;rw[e]at q;cases q;rfl
 ·exact(L.LM n b q z).1
theorem CE.pu(K:CE d Z D ns):∃hi re wr,d.ed 12 Z.g=ap (fE Z.g hi re wr):=K.ef λY z=>z.ef λY z=>KD _ _ _ z.K.C.q.pu
theorem CE.fr(K:CE d Z D ns){S:am a5}(h:Fr S d U)(e:(S.b6 11 ||S.b6 12 ||S.b6 20 ||S.b6 21 ||S.b6 22)=false)(a:(S.b6 13 ||S.b6 23 ||S.b6 24 ||S.b6 25)=false):CE U Z D ns:=K.DO λY z=>z.DO λY z=>⟨z.K.fr h e a,z.pin,z.LM⟩
theorem CE.ER(K:CE d Z D ns)(h:n∈ns):(D n).ah=48:=K.ef λY z=>z.ef λY z=>(z.pin n h).ef λk e=>(z.K.C.q.buf n _ e).2.2.1
theorem Dt.step{g:Mt}{B':a5->bS Bf}{j k:a5}(L:Dt d Z D ns B c)(l:CD U g B' j)(e:B' n=ap ⟨k,o,0,c_ B n⟩)(hi:∀i,i≠n->B' i=B i\/B' i=bk/\K.LM B i)(m:n∈ns->o=D n):CE U g D ns:=by
 refine⟨B',j,l,λi a=>?_,λi b q a=>?_⟩
 ·obtain⟨k2,f⟩:=L.pin i a;by_cases z:i=n
  ·subst z;have:c_ B i=1:=by unfold c_;rw[f]
   exact⟨k,by rw[e,this,m a]⟩
  ·rcases hi i z with h |h
   ·exact⟨k2,h.trans f⟩
   ·exact kk (h.2 _ f).2 a5.Kg
 ·by_cases z:i=n
  ·subst z;rw[e]at q;cases q;refine⟨rfl,?_⟩;show c_ B i=0;delta c_;cases p:B i with
   |bk=>rfl
   |ap b=>exact(L.LM i b p a).2
  ·rcases hi i z with h |h
   ·exact L.LM i b (h.symm.trans q) a
   ·rw[h.1]at q;exact dE q
theorem Dt.dN(L:Dt d Z D ns B c)(h:n∈ns):dat Z B n=D n:=(L.pin n h).ef λk e=>by unfold K.dat;rw[e]
theorem Dt.d0(L:Dt d Z D ns B c)(h:n∉ns):dat Z B n=GS Z.bA Z.hT n:=i6 L.K (λb q=>(L.LM n b q h).1) (by delta c_;cases a:B n with |bk=>rfl |ap b=>exact(L.LM n b a h).2)
theorem zT(K:CE d Z D ns)(hn:n<Z.nb)(a:ns.ah<=11)(hi:n∈ns)
  (b:∀m,CA true 4 51 [.bs 12 Z.g,.bn n] d (.ok (.d3 (D n)) m)->CE m Z D ns->Fr CS d m->P):P:=by refine f_ K λB c L=>Am L.K hn a L.LM (L.j2 n) λm B' i k h1 e f h2 g=>b m (L.dN hi▸h1) (L.step e f h2 λh=>L.dN h) (g.hA rfl)
theorem vO(K:CE d Z D ns)(hn:n<Z.nb)(a:ns.ah<=11)(hi:n∉ns)
  (b:∀m,CA true 4 51 [.bs 12 Z.g,.bn n] d (.ok (.d3 (GS Z.bA Z.hT n)) m)->CE m Z D ns->Fr CS d m->P):P:=by refine f_ K λB c L=>Am L.K hn a L.LM (L.j2 n) λm B' i k h1 e f h2 g=>b m (L.d0 hi▸h1) (L.step e f h2 λh=>kk h hi) (g.hA rfl)
theorem qV(K:CE d Z D ns)(hn:n<Z.nb)(a:ns.ah<=11)(hi:n∈ns->o=D n)(b:o.ah=48)(e:Z.w<=aQ)(f:Z.bA.ah+1<=aQ)
  (g:∀m,CA true 4 52 [.bs 12 Z.g,.bn n,.d3 o] d (.ok .bk m)->CE m (Z.wrote n o) D ns->Fr CS d m->P)
  (h:∀m,CA true 4 52 [.bs 12 Z.g,.bn n,.d3 o] d (.exc 5 m)->aS m Z.jt->Fr CS d m->P):P:=by refine f_ K λB c L=>Gb L.K hn a L.LM (L.j2 n) b e f (λm B' p k h1 i j h2 l=>g m h1 (L.step i j h2 hi) l) h
theorem m_(K:CE d Z D ns)(b:Z.w<=aQ)
  (e:∀m,CA true 3 50 [.bs 12 Z.g] d (.ok .bk m)->CE m Z.flushed D ns->Fr CS d m->P) (f:∀m,CA true 3 50 [.bs 12 Z.g] d (.exc 5 m)->aS m Z.jt->Fr CS d m->P):P:=by refine f_ K λB c L=>AB L.K b (λm h1 g a=>e m h1 ⟨B,c,g,L.pin,L.LM⟩ (a.hA rfl)) λm h1 D1 a=>f m h1 D1 (a.hA rfl)
end
def oK:am (a5×am cy)->Mt->Mt
 | [],Z=>Z
 |p::r,Z=>oK r (Z.wrote p.1 p.2)
def m9(D:Oc):am a5->a5->am (a5×am cy)
 | [],_=> []
 |n::r,s=>(3+s,D n)::m9 D r (s+1)
section
variable{d U:H}{Z:Mt}{D:Oc}{ns:am a5}{c n a i j k:a5}{o:am cy}{P:Prop}{cm:b0}{l3:am V}{g:a5}
def LX:am S:=[.ex (.m (.a (.v 0) 81) 114 [.b .s0 (.b .s0 (.a (.v 0) 101) (.c (.bn 1))) (.v 1),.m (.a (.v 0) 81) 115 [.v 2]])]
theorem zE(w:ns.ah<=7)(A:∀n,n∈ns->10<=n/\n<Z.nb):∀{l:am a5} {s:a5} {Y:Mt} {d:H} {x y:V} {P:Prop},Y.g=g->Y.nb=Z.nb->20<=Z.nb->Y.w+l.ah<=aQ->Y.bA.ah+l.ah<=aQ->CE d Y D ns->d.ed 17 g=ap (dp g i j a cm)->d.ed 26 k=ap (.dG l3)->(∀n,n∈l->n∈ns)->s+l.ah<=7->
  (∀b c m,aV true 4 (λm=>m.ed 26 k=ap (.dG l3)) (λv vs cb=>∃ws,v=.KS ws/\ws.ah=[1,2].ah/\cb=bP [1,2] ws vs) LX (fV s (l.hC iV)) [.bs 17 g,x,y] d .nx [.bs 17 g,b,c] m->CE m (oK (m9 D l s) Y) D ns->Fr CS d m->P)->
  (∀b c m t,aV true 4 (λm=>m.ed 26 k=ap (.dG l3)) (λv vs cb=>∃ws,v=.KS ws/\ws.ah=[1,2].ah/\cb=bP [1,2] ws vs) LX (fV s (l.hC iV)) [.bs 17 g,x,y] d (.ex 5) [.bs 17 g,b,c] m->aS m (oK ((m9 D l s).m0 t) Y).jt->Fr CS d m->P)->P:=by
 intro J
 induction J with
 |iv=>
  intro s Y d x y P hg e B C E K h1 h2 X X f h;exact f _ _ _ (.iv h2) K .hJ
 |d2 n l L=>
  intro s Y d x y P hg e B C E K h1 h2 F hs f h;rw[am.o3]at hs C E;have hn:=F n (.sk _);obtain⟨T,M⟩:=A n hn;subst hg;refine jn K.pu λhi re wr h3=>?_;refine zT K (e▸M) (a5.bb w av) hn λm1 h4 N G=>?_;have O:3+s<Y.nb:=by omega
  have Q:3+s∉ns:=λz=>by have:=(A _ z).1;omega
  refine qV N O (a5.bb w av) (λz=>kk z Q) (K.ER hn) (by omega) (by omega) (λo h5 R p=>?_) (λo h5 S p=>?_)
  ·haveI hf:=G.trans p;have I:SB true 4 [.bs 17 Y.g,.bn s,iV n] d LX .nx [.bs 17 Y.g,.bn s,iV n] o:=by
    fail"%2m&$'$')AA&$''6'6)<&$'$''*$',*$'+"
   refine L (s:=s+1) (Y:=Y.wrote (3+s) (D n)) (x:=.bn s) (y:=iV n) rfl e B (by show Y.w+1+l.ah<=aQ;omega) (by show(Y.bA++[(3+s,D n)]).ah+l.ah<=aQ;rw[am.ep,am.length_singleton];omega) R (Fr.at hf h1 rfl) (Fr.at hf h2 rfl) (λn z=>F n (.sy _ z)) (by omega) (λb c m q r u=>?_) (λb c m t q r u=>?_)
   ·exact f b c m (.d2 h2 ⟨_,rfl,rfl,rfl⟩ I q) r (hf.trans u)
   ·exact h b c m (t+1) (.d2 h2 ⟨_,rfl,rfl,rfl⟩ I q) r (hf.trans u)
  ·refine h (.bn s) (iV n) o 0 (aV.G4 h2 ⟨_,rfl,rfl,rfl⟩ ?_) S (G.trans p);fail"Q]m&$'$')AA&$''6'6)<&$'$''*$',*$'"
end
section
variable{d U:H}{Z:Mt}{D:Oc}{ns:am a5}{c n a i j k s:a5}{o:am cy}{P:Prop}{cm:b0}{l3:am V}{g:a5}
theorem dZ:∀{l:am (a5×am cy)} {Z:Mt},oK l Z={Z with w:=Z.w+l.ah,bA:=Z.bA++l}:=by
 intro a
 induction a with
 |iv=>intro Z;show Z=_;rw[am.x6];rfl
 |d2 p l b=>
  intro Z;show oK l (Z.wrote p.1 p.2)=_;rw[b];show({Z with w:=Z.w+1+l.ah,bA:=Z.bA++[(p.1,p.2)] ++l}:Mt)=_;rw[am.o3,am.sN,a5.t0,a5.tz 1];rfl
theorem qP:∀{l:am a5} {s:a5},(m9 D l s).ah=l.ah:=by
 intro a
 induction a with
 |iv=>intro s;rfl
 |d2 n l b=>intro s;exact b5 (·+1) b
theorem uN(k:ns.ah<=7)(l:∀n,n∈ns->10<=n/\n<Z.nb)(o:20<=Z.nb)(B:Z.w+7<=aQ)(p:Z.bA=[])(K:CE d Z D ns)(h1:d.ed 17 Z.g=ap (dp Z.g i j a cm))(h2:d.ed 26 i=ap (.dG (ns.hC iV)))
  (q:∀m,CA true 5 113 [.bs 17 Z.g] d (.ok .bk m)->CE m (oK (m9 D ns 0) Z).flushed D ns->Fr CS d m->P)
  (g:∀m t,CA true 5 113 [.bs 17 Z.g] d (.exc 5 m)->aS m (oK ((m9 D ns 0).m0 t) Z).jt->Fr CS d m->P):P:=by
 refine zE (x:=.i1) (y:=.i1) (s:=0) k l rfl rfl o (by omega) (by rw[p,am.IK];omega) K h1 h2 (λY z=>z) (by omega) (λr u m1 c h b=>?_) (λr u m1 t c D1 b=>?_)
 ·have eg:(oK (m9 D ns 0) Z).g=Z.g:=by rw[dZ]
  have v:(oK (m9 D ns 0) Z).w<=aQ:=by rw[dZ];show Z.w+(m9 D ns 0).ah<=aQ;rw[qP];omega
  haveI h3:=Fr.at b h1 rfl;refine jn h.pu λhi re wr h4=>?_;rw[eg]at h4;refine m_ h v (λe h5 w f=>?_) (λe h5 A f=>?_)
  ·rw[eg]at h5;refine q e ?_ w (b.trans f);apply nx cg rfl rfl;fail"%|j&$'$";exact c;fail"%2<&$'$''*$'+"
  ·rw[eg]at h5;refine g e (m9 D ns 0).ah ?_ (by rw[am.H2];exact A) (b.trans f);apply ex cg rfl rfl;fail"%|j&$'$";exact c;fail"Q]<&$'$''*$'"
 ·refine g m1 t ?_ D1 b;apply ex cg rfl rfl;fail"Q";apply SS.fr;fail"j&$'$";exact c
end
section
variable{d U:H}{Z:Mt}{D:Oc}{ns:am a5}{c n a i j k s:a5}{o:am cy}{P:Prop}{cm:b0}{l3:am V}{g:a5}
theorem hZ{l:am a5}{s q:a5}(h0:d.ed s q=ap (.dG (l.hC iV)))(hs:[30,31,33,34,35].b6 s=false)(r:l.ah<=7)(hn:ns.ah<=7)(u:∀n,n∈ns->10<=n/\n<Z.nb)(E:20<=Z.nb)(F:Z.w+7<=aQ)(v:Z.bA=[])(K:CE d Z D ns)(h1:d.ed 17 Z.g=ap (dp Z.g i j a cm))
  (w:∀m,CA true 5 114 [.bs 17 Z.g,.bs s q] d (.ok .bk m)->CE m (oK [(2,bL l)] Z).flushed D ns->Fr (30::31::33::34::35::CS) d m->P)
  (h:∀m t,CA true 5 114 [.bs 17 Z.g,.bs s q] d (.exc 5 m)->aS m (oK ([(2,bL l)].m0 t) Z).jt->Fr (30::31::33::34::35::CS) d m->P):P:=by
 obtain⟨x,b⟩:=o6 h0 hs r;refine jn K.pu λhi re wr h2=>?_;haveI h3:=b.ca;have y:=K.fr b.q rfl rfl;haveI k:Fr (30::31::33::34::35::CS) d b.m:=b.q.hA rfl;refine qV (n:=2) y (by omega) (a5.bb hn av) (λz=>by have:=(u _ z).1;omega) x (by omega) (by rw[v];exact av) (λo h4 p c=>?_) (λo h4 A c=>?_)
 ·haveI e:=k.trans (c.hA rfl);haveI h6:=Fr.at e h1 rfl;refine jn p.pu λG H I h7=>m_ p (by show Z.w+1<=aQ;omega) (λf h5 B g=>?_) (λf h5 C g=>?_)
  ·refine w f ?_ B (e.trans (g.hA rfl));apply nx bV rfl rfl;fail"%2m&$'$')&$')F)()E&$'$',*$',*$'%2<&$'$''*$'+"
  ·refine h f 1 ?_ C (e.trans (g.hA rfl));apply ex bV rfl rfl;fail"%2m&$'$')&$')F)()E&$'$',*$',*$'Q]<&$'$''*$'"
 ·refine h o 0 ?_ A (k.trans (c.hA rfl));apply ex bV rfl rfl;fail"Q]m&$'$')&$')F)()E&$'$',*$',*$'"
end
def mY(D:Oc)(l:am a5):am (a5×am cy):=l.hC λn=>(n,D n)
def Kb:am S:=[.as (.v 5) (.m (.a (.v 0) 81) 115 [.qC (.v 2) (.b .s0 (.b .s0 (.a (.v 0) 101) (.c (.bn 1))) (.v 3)) (.v 4)]),.ex (.m (.a (.v 0) 81) 114 [.v 4,.v 5])]
section
variable{d U:H}{Z:Mt}{D:Oc}{ns:am a5}{c n a i j k s:a5}{o:am cy}{P:Prop}{cm:b0}{l3:am V}{g:a5}
theorem zg{q:a5}(C:ns.ah<=7)(M:∀n,n∈ns->10<=n/\n<Z.nb):∀{l:am a5} {s:a5} {Y:Mt} {d:H} {x y z:V} {P:Prop},Y.g=g->Y.nb=Z.nb->Y.w+l.ah<=aQ->Y.bA.ah+l.ah<=aQ->CE d Y D ns->d.ed 17 g=ap (dp g i j a cm)->d.ed 26 k=ap (.dG l3)->(∀n,n∈l->n∈ns)->
  (∀b c e m,aV true 4 (λm=>m.ed 26 k=ap (.dG l3)) (λv vs cb=>∃ws,v=.KS ws/\ws.ah=[3,4].ah/\cb=bP [3,4] ws vs) Kb (fV s (l.hC iV)) [.bs 17 g,.bs 26 q,.gg false,x,y,z] d .nx [.bs 17 g,.bs 26 q,.gg false,b,c,e] m->CE m (oK (mY D l) Y) D ns->Fr CS d m->P)->
  (∀b c e m t,aV true 4 (λm=>m.ed 26 k=ap (.dG l3)) (λv vs cb=>∃ws,v=.KS ws/\ws.ah=[3,4].ah/\cb=bP [3,4] ws vs) Kb (fV s (l.hC iV)) [.bs 17 g,.bs 26 q,.gg false,x,y,z] d (.ex 5) [.bs 17 g,.bs 26 q,.gg false,b,c,e] m->aS m (oK ((mY D l).m0 t) Y).jt->Fr CS d m->P)->P:=by
 intro N
 induction N with
 |iv=>
  intro s Y d x y z P hg f E F K h1 h2 X h o;exact h _ _ _ _ (.iv h2) K .hJ
 |d2 n l O=>
  intro s Y d x y z P hg f E F K h1 h2 G h o;rw[am.o3]at E F;have hn:=G n (.sk _);obtain⟨S,I⟩:=M n hn;subst hg;refine jn K.pu λhi re wr h3=>?_;refine zT K (f▸I) (a5.bb C av) hn λm1 h4 J p=>?_;haveI h6:=Fr.at p h1 rfl;refine jn J.pu λT U W h7=>?_;refine qV J (f▸I) (a5.bb C av) (λX=>rfl) (K.ER hn) (by omega) (by omega) (λr h5 Q u=>?_) (λr h5 R u=>?_)
  ·haveI hf:=p.trans u;have L:SB true 4 [.bs 17 Y.g,.bs 26 q,.gg false,.bn s,iV n,z] d Kb .nx [.bs 17 Y.g,.bs 26 q,.gg false,.bn s,iV n,.d3 (D n)] r:=by
    fail"%9m&$'$')";apply EX.bu;fail"G('(,*$'%2<&$'$''*$'+"
   refine O (s:=s+1) (Y:=Y.wrote n (D n)) (x:=.bn s) (y:=iV n) (z:=.d3 (D n)) rfl f (by show Y.w+1+l.ah<=aQ;omega) (by show(Y.bA++[(n,D n)]).ah+l.ah<=aQ;rw[am.ep,am.length_singleton];omega) Q (Fr.at hf h1 rfl) (Fr.at hf h2 rfl) (λn z=>G n (.sy _ z)) (λb c e m w A B=>?_) (λb c e m t w A B=>?_)
   ·exact h b c e m (.d2 h2 ⟨_,rfl,rfl,rfl⟩ L w) A (hf.trans B)
   ·exact o b c e m (t+1) (.d2 h2 ⟨_,rfl,rfl,rfl⟩ L w) A (hf.trans B)
  ·refine o (.bn s) (iV n) (.d3 (D n)) r 0 (aV.G4 h2 ⟨_,rfl,rfl,rfl⟩ ?_) R (p.trans u);fail"%9m&$'$')";apply EX.bu;fail"G('(,*$'Q]<&$'$''*$'"
theorem xc(k:ns.ah<=7)(l:∀n,n∈ns->10<=n/\n<Z.nb)(C:Z.w+7<=aQ)(o:Z.bA=[])(K:CE d Z D ns)(h1:d.ed 17 Z.g=ap (dp Z.g i j a cm))(h2:d.ed 26 i=ap (.dG (ns.hC iV)))
  (p:∀m,CA true 5 115 [.bs 17 Z.g,.bs 26 i,.gg false] d (.ok .bk m)->CE m (oK (mY D ns) Z).flushed D ns->Fr CS d m->P)
  (g:∀m t,CA true 5 115 [.bs 17 Z.g,.bs 26 i,.gg false] d (.exc 5 m)->aS m (oK ((mY D ns).m0 t) Z).jt->Fr CS d m->P):P:=by
 have E:aQ=1000000:=rfl;refine zg (x:=.i1) (y:=.i1) (z:=.i1) (s:=0) (q:=i) k l rfl rfl (by omega) (by rw[o,am.IK];omega) K h1 h2 (λY z=>z) (λr u v m1 c h b=>?_) (λr u v m1 t c D1 b=>?_)
 ·have eg:(oK (mY D ns) Z).g=Z.g:=by rw[dZ]
  have w:(oK (mY D ns) Z).w<=aQ:=by rw[dZ];show Z.w+(ns.hC _).ah<=aQ;rw[am.fz];omega
  haveI h3:=Fr.at b h1 rfl;refine jn h.pu λhi re wr h4=>?_;rw[eg]at h4;refine m_ h w (λe h5 A f=>?_) (λe h5 B f=>?_)
  ·rw[eg]at h5;refine p e ?_ A (b.trans f);apply nx bW rfl rfl;fail"%|j($";exact c;fail"%2<&$'$''*$'+"
  ·rw[eg]at h5;refine g e (mY D ns).ah ?_ (by rw[am.H2];exact B) (b.trans f);apply ex bW rfl rfl;fail"%|j($";exact c;fail"Q]<&$'$''*$'"
 ·refine g m1 t ?_ D1 b;apply ex bW rfl rfl;fail"Q";apply SS.fr;fail"j($";exact c
end
section
variable{Z:Mt}{D:Oc}{a i j k:a5}{cm:b0}{l3:am V}
theorem xV:∀{l:am a5} {d:H} {x:V},CE d Z D l->d.ed 17 Z.g=ap (dp Z.g i j a cm)->d.ed 26 k=ap (.dG l3)->l.p9->(∀n,n∈l->D n=GS Z.bA Z.hT n)->
  ∃e U,aV true 5 (λm=>m.ed 26 k=ap (.dG l3)) (λv vs cb=>cb=vs.fC 1 v) [.ex (.m (.a (.v 0) 81) 113 [.v 1])] (l.hC iV) [.bs 17 Z.g,x] d .nx [.bs 17 Z.g,e] U/\CE U Z D []/\Fr [11] d U:=by
 intro g
 induction g with
 |iv=>
  intro d x K h1 h2 Y Y;exact⟨_,_,.iv h2,K,.hJ⟩
 |d2 n l h=>
  intro d x K h1 h2 hn f;rw[am.p5]at hn;obtain⟨B,c,L⟩:=K;obtain⟨k',hb⟩:=L.pin n (.sk _);haveI h3:=L.K.C.q.pu;haveI h4:=CP (lp:=true) L.K hb;have o:=Ep L.K hb (h':=0) (p':=0) λY Y=>f n (.sk _);have p:CE (d.fC 11 k' (pR n ⟨k',D n,0,0⟩)) Z D l:=⟨_,c,o,λm z=>by
   obtain⟨k2,r⟩:=L.pin m (.sy _ z);exact⟨k2,(cf (λ(y:m=n)=>hn.1 (y▸z))).trans r⟩,λm b q z=>by
   rcases qb q with⟨_,rfl⟩ |⟨y,q⟩
   ·exact⟨rfl,rfl⟩
   ·exact L.LM m b q λw=>(am.hD.mp w).ef y z⟩
  obtain⟨e,U,s,t,u⟩:=h p h1 h2 hn.2 λm z=>f m (.sy _ z);refine⟨e,U,.d2 h2 rfl ?_ s,t,(Fr.fC rfl .hJ).trans u⟩;fail"%2<&$'$''*$'+"
end
def wj(l:am (a5×am cy))(Z:Mt):Mt:={Z with w:=Z.w+l.ah,f:=Z.f+1,hT:=GS (Z.bA++l) Z.hT,bA:=[]}
def IQ(l:am (a5×am cy))(Z:Mt):Mt:={Z with w:=Z.w+l.ah,bA:=Z.bA++l,dead:=true}
theorem lJ{l:am (a5×am cy)}{Z:Mt}:(oK l Z).flushed=wj l Z:=by rw[dZ];rfl
theorem qY{l:am (a5×am cy)}{Z:Mt}:(oK l Z).jt=IQ l Z:=by rw[dZ];rfl
def Z1(D:Oc)(ns:am a5)(Z:Mt):Mt:=wj (m9 D ns 0) Z
def Z2(D:Oc)(ns:am a5)(Z:Mt):Mt:=wj [(2,bL ns)] (Z1 D ns Z)
def Z3(D:Oc)(ns:am a5)(Z:Mt):Mt:=wj (mY D ns) (Z2 D ns Z)
def Z4(D:Oc)(ns:am a5)(Z:Mt):Mt:=wj [(2,bL [])] (Z3 D ns Z)
def Cut(D:Oc)(ns:am a5)(Z Y:Mt):Prop:=∃t,Y=IQ ((m9 D ns 0).m0 t) Z\/Y=IQ ([(2,bL ns)].m0 t) (Z1 D ns Z)\/Y=IQ ((mY D ns).m0 t) (Z2 D ns Z)\/Y=IQ ([(2,bL [])].m0 t) (Z3 D ns Z)
theorem GA{D:Oc}{ns:am a5}{Z:Mt}:(Z1 D ns Z).w=Z.w+ns.ah:=b5 (Z.w+·) qP
theorem Jv{D:Oc}{ns:am a5}{Z:Mt}:(Z3 D ns Z).w=Z.w+ns.ah+1+ns.ah:=by show(Z1 D ns Z).w+1+(ns.hC _).ah=_;rw[GA,am.fz]
def gI:am a5:=[11,12,13,17,20,21,22,23,24,25,26,27,30,31,33,34,35,36,37,38,39]
section
variable{d:H}{Z:Mt}{D:Oc}{ns:am a5}{i j:a5}{P:Prop}{cm:b0}
theorem y9{n:a5}:∀{l:am a5} {k:Oc},k n=D n->GS (mY D l) k n=D n:=by
 intro a
 induction a with
 |iv=>exact λh=>h
 |d2 m l b=>
  intro k h;refine b (k:=wr k m (D m)) ?_;by_cases z:n=m
  ·subst z;exact aW
  ·exact(aJ z).trans h
theorem y_{n:a5}:∀{l:am a5} {k:Oc},n∈l->GS (mY D l) k n=D n:=by
 intro a
 induction a with
 |iv=>exact λh=>bC h
 |d2 m l b=>
  intro k h;by_cases z:n=m
  ·subst z;exact y9 (l:=l) aW
  ·exact b (k:=wr k m (D m)) ((am.hD.mp h).K0 z)
theorem Ju{n:a5}(h:n∈ns)(h2:n≠2):GS (Z4 D ns Z).bA (Z4 D ns Z).hT n=D n:=(aJ h2).trans (y_ (l:=ns) h)
theorem AA(g:ns.ah<=7)(O:ns.p9)(h:∀n,n∈ns->10<=n/\n<Z.nb)(C:20<=Z.nb)(Q:Z.w+40<=aQ)(R:Z.bA=[])(K:CE d Z D ns)(E:d.ed 17 Z.g=ap (dp Z.g i j 0 cm))(F:d.ed 26 i=ap (.dG (ns.hC iV)))
  (T:∀m,CA true 6 112 [.bs 17 Z.g] d (.ok .bk m)->CE m (Z4 D ns Z) D []->cQ m Z.g [] 0->Fr gI d m->P)
  (p:∀m Y,CA true 6 112 [.bs 17 Z.g] d (.exc 5 m)->aS m Y->Cut D ns Z Y->Fr gI d m->P):P:=by
 refine uN g h C (a5.bb (a5.kQ (by decide) _) Q) R K E F (λm1 h1 r a=>?_) (λm1 t h1 D1 a=>?_)
 ·have r:CE m1 (Z1 D ns Z) D ns:=by rw[lJ]at r;exact r
  haveI G:m1.ed 17 Z.g=ap (dp Z.g i j 0 cm):=Fr.at a E rfl;haveI H:=Fr.at a F rfl;refine hZ (Z:=Z1 D ns Z) H rfl g g h C (by rw[GA];omega) rfl r G (λu h2 v b=>?_) (λu t h2 U b=>?_)
  ·have v:CE u (Z2 D ns Z) D ns:=by rw[lJ]at v;exact v
   haveI I:u.ed 17 Z.g=ap (dp Z.g i j 0 cm):=Fr.at b G rfl;haveI J:=Fr.at b H rfl;refine xc (Z:=Z2 D ns Z) g h (by show(Z1 D ns Z).w+1+7<=aQ;rw[GA];omega) rfl v I J (λc h3 w e=>?_) (λc t h3 V e=>?_)
   ·have w:CE c (Z3 D ns Z) D ns:=by rw[lJ]at w;exact w
    haveI L:c.ed 17 Z.g=ap (dp Z.g i j 0 cm):=Fr.at e I rfl;haveI W:=Fr.at e J rfl;have X:CE (c.hM 36 (.dG [])) (Z3 D ns Z) D ns:=w.fr (S:=[36]) (.hM rfl .hJ) rfl rfl;refine hZ (Z:=Z3 D ns Z) (d:=c.hM 36 (.dG [])) (l:=[]) (s:=36) (q:=c.gz 36) aK rfl (a5.ri _) g h C (by rw[Jv];omega) rfl X L (λA h5 k o=>?_) (λA t h5 D5 o=>?_)
    ·have k:CE A (Z4 D ns Z) D ns:=by rw[lJ]at k;exact k
     haveI M:A.ed 17 Z.g=ap (dp Z.g i j 0 cm):=Fr.at o ((bz rfl).trans L) rfl;haveI G1:=Fr.at o ((bz rfl).trans W) rfl;refine jn k.pu λhi re KJ NB=>?_;obtain⟨x',B,t1,K7,N⟩:=xV (x:=.i1) k M G1 O λn z=>(Ju z (λy=>by have:=(h n z).1;omega)).symm;haveI P8:B.ed 17 Z.g=ap (dp Z.g i j 0 cm):=Fr.at N M rfl;have f:Fr gI d B:=(a.hA rfl).trans ((b.hA rfl).trans ((e.hA rfl).trans ((Fr.hM (S:=gI) rfl .hJ).trans ((o.hA rfl).trans (N.hA rfl)))));refine T ?m1 ?c1 ?a1 ?b1 ?d1
     case c1=>
      apply nx bN rfl rfl;fail"%27$''*$'%2P$')&$',*$'%2P$')&$')";exact xb;fail",*$'%2P$')";apply EX.ls (ce:=36);fail",0,*$'%";apply SS.lT;apply IT.of;fail"&$'";apply Es.dG;fail"$$%3";apply EX.ls (ce:=26);fail",0'$'0%3";exact EX.Ed (ce:=27);rfl
      (repeat first |exact a4.mx |assumption |refine(a4.K.a_ rfl).trans ?_ |refine(a4.K.bz rfl).trans ?_);fail"'0%a("
      fail".'=d.'0+"
     case a1=>exact K7.fr (S:=[17,26,27]) (.fC rfl (.fC rfl (.hM rfl (.fC rfl (.hM rfl .hJ))))) rfl rfl
     case b1=>exact⟨⟨B.gz 26,B.gz 27,cm+1,[]⟩,mx,(a_ rfl).trans ((a_ rfl).trans ((bz rfl).trans ((a_ rfl).trans aK))),(a_ rfl).trans ((a_ rfl).trans aK),rfl,λ_=>rfl,a5.ri _⟩
     case d1=>exact .fC rfl (.fC rfl (.hM rfl (.fC rfl (.hM rfl f))))
    ·refine p A _ ?_ D5 ⟨t,.wl (.wl (.wl qY))⟩ ((a.hA rfl).trans ((b.hA rfl).trans ((e.hA rfl).trans ((Fr.hM (S:=gI) rfl .hJ).trans (o.hA rfl)))));apply ex bN rfl rfl;fail"%27$''*$'%2P$')&$',*$'%2P$')&$')";exact xb;fail",*$'Q]P$')";apply EX.ls (ce:=36);fail",0,*$'"
   ·refine p c _ ?_ V ⟨t,.wl (.wl (.u0 qY))⟩ ((a.hA rfl).trans ((b.hA rfl).trans (e.hA rfl)));apply ex bN rfl rfl;fail"%27$''*$'%2P$')&$',*$'Q]P$')&$')";exact xb;fail",*$'"
  ·refine p u _ ?_ U ⟨t,.wl (.u0 qY)⟩ ((a.hA rfl).trans (b.hA rfl));apply ex bN rfl rfl;fail"%27$''*$'Q]P$')&$',*$'"
 ·refine p m1 _ ?_ D1 ⟨t,.u0 qY⟩ (a.hA rfl);apply ex bN rfl rfl;fail"Q]7$''*$'"
end
section
variable{d:H}{Z:Mt}{D:Oc}{ns:am a5}{i j:a5}{P:Prop}{cm:b0}
theorem Jg(h0:ns≠[])(c:ns.ah<=7)(f:ns.p9)(g:∀n,n∈ns->10<=n/\n<Z.nb)(h:20<=Z.nb)(k:Z.w+40<=aQ)(l:Z.bA=[])(K:CE d Z D ns)(t:d.ed 17 Z.g=ap (dp Z.g i j 1 cm))(o:d.ed 26 i=ap (.dG (ns.hC iV)))
  (p:∀m,CA true 7 111 [.bs 17 Z.g] d (.ok .bk m)->CE m (Z4 D ns Z) D []->cQ m Z.g [] 0->Fr gI d m->P)
  (q:∀m Y,CA true 7 111 [.bs 17 Z.g] d (.exc 5 m)->aS m Y->Cut D ns Z Y->Fr gI d m->P):P:=by
 have b:Fr gI d ((d.fC 17 Z.g (dp Z.g i j 0 cm)).hM 36 (.dG [])):=.hM rfl (.fC rfl .hJ);haveI e:(!(ns.hC iV).sw)=true:=by cases ns with |iv=>exact kk rfl h0 |d2 _ _=>rfl
 refine AA (d:=(d.fC 17 Z.g (dp Z.g i j 0 cm)).hM 36 (.dG [])) c f g h k l (K.fr (S:=[17,36]) (.hM rfl (.fC rfl .hJ)) rfl rfl) ((bz rfl).trans mx) ((bz rfl).trans ((a_ rfl).trans o)) (λm h1 r s a=>?_) (λm Y h1 D1 C1 a=>?_)
 ·refine p m ?_ r s (b.trans a);apply nx gp rfl rfl;fail"%4B&$''D'+%a($'=";exact fG.Kj;fail"$'0%RH:B&.''D':>&.'";apply EX.ls (ce:=36);fail",0";apply aq.wH;fail"$";exact aK;fail"$M'%27";(repeat first |exact a4.mx |assumption |refine(a4.K.a_ rfl).trans ?_ |refine(a4.K.bz rfl).trans ?_);rfl;rfl;(apply CA.up;exact h1;rfl);fail"++"
 ·refine q m Y ?_ D1 C1 (b.trans a);apply ex gp rfl rfl;fail"%4B&$''D'+%a($'=";exact fG.Kj;fail"$'0QRH:B&.''D':>&.'";apply EX.ls (ce:=36);fail",0";apply aq.wH;fail"$";exact aK;fail"$M'Q]7";(repeat first |exact a4.mx |assumption |refine(a4.K.a_ rfl).trans ?_ |refine(a4.K.bz rfl).trans ?_);rfl;rfl;(apply CA.up;exact h1;rfl)
end
structure rA(nb:a5)(k V:Oc)(N:am a5):Prop where
 sk:k 2=bL N
 nd:N.p9
 ER:N.ah<=7
 er:∀n,n∈N->10<=n/\n<nb
 log:∀i n,N[i]?=ap n->V n=k (3+i)
 s8:∀n,10<=n->n∉N->V n=k n
section
variable{k V D:Oc}{n s:a5}{ns:am a5}
theorem pv:bL []=zb:=by decide+kernel
theorem dg:∀{r:am (a5×am cy)} {k:Oc},(∀p,p∈r->p.1≠n)->GS r k n=k n:=by
 intro a
 induction a with
 |iv=>exact λZ=>rfl
 |d2 p r b=>
  intro k h;exact(b λq z=>h q (.sy _ z)).trans (aJ (Ne.symm (h p (.sk _))))
theorem zF:∀{l:am a5} {s:a5} {p:a5×am cy},p∈m9 D l s->3+s<=p.1/\p.1<3+s+l.ah:=by
 intro a
 induction a with
 |iv=>exact λh=>bC h
 |d2 n l b=>
  intro s p h;rw[am.o3];rcases am.hD.mp h with rfl |h
  ·exact⟨a5.i3 _,by show 3+s<_;omega⟩
  ·have:=b h;omega
theorem Cs:∀{l:am a5} {s i:a5} {k:Oc},l[i]?=ap n->GS (m9 D l s) k (3+s+i)=D n:=by
 intro a
 induction a with
 |iv=>intro s i k h;exact dE h
 |d2 m l b=>
  intro s i k h;cases i with
  |zero=>
   obtain rfl:m=n:=bS.ap.zv h;exact(dg (k:=wr k (3+s) (D m)) λp z=>by have:=(zF z).1;omega).trans aW
  |Fy i=>
   have e:3+s+(i+1)=3+(s+1)+i:=by omega
   rw[e];exact b h
end
def G7(nb:a5)(k V W:Oc):Prop:=∃N,rA nb k V N\/rA nb k W N
section
variable{k V D:Oc}{n s:a5}{ns:am a5}{Z Y:Mt}
theorem yc{p:a5×am cy}{r l:am (a5×am cy)}{t:a5}(h:r.GT (l.m0 t))(a:p∈r):p∈l:=(am.Fd t l).subset (h.subset a)
theorem sub_one{x:a5×am cy}{r:am (a5×am cy)}{t:a5}(h:r.GT ([x].m0 t)):r=[] \/r=[x]:=by
 have:=h.trans (am.Fd t [x]);cases this with
 |d2 _ h=>exact .u0 (am.sublist_nil.mp h)
 |cons_cons _ h=>exact .wl (b5 _ (am.sublist_nil.mp h))
theorem ui{p:a5×am cy}(h:p∈mY D ns):p.1∈ns:=(am.JQ.mp h).ef λm z=>z.2▸z.1
theorem Cd{i:a5}(h:ns[i]?=ap n)(a:ns.ah<=7):3+i<10:=by
 have:=(am.hv.mp h).1
 omega
theorem r7{r:am (a5×am cy)}(hh:Z.hT 2=zb)(a:∀p,p∈r->2<p.1/\p.1<10):rA Z.nb (GS r Z.hT) Z.hT []:=
 ⟨(dg λp z=>a5.FA (a p z).1).trans (hh.trans pv.symm),.iv,a5.ri _,λY z=>bC z,λi n z=>dE z,λn h Y=>(dg λp z=>a5.sK (a5.ew (a p z).2 h)).symm⟩
abbrev kA(D:Oc)(ns:am a5)(k:Oc):Oc:=GS (m9 D ns 0) k
theorem qO(a:ns.ah<=7){p:a5×am cy}(h:p∈m9 D ns 0):2<p.1/\p.1<10:=by have:=zF h;omega
theorem nC{r:am (a5×am cy)}(a:ns.ah<=7)(d:ns.p9)(b:∀n,n∈ns->10<=n/\n<Z.nb)(e:∀n,10<=n->n∉ns->D n=Z.hT n)(c:∀p,p∈r->p.1∈ns):rA Z.nb (GS r (wr (kA D ns Z.hT) 2 (bL ns))) D ns:=
 ⟨(dg λp z y=>by have:=(b _ (c p z)).1;omega).trans aW,d,a,b,λi n z=>((dg λp q y=>by have:=(b _ (c p q)).1;have:=Cd z a;omega).trans ((aJ ((Li av).symm)).trans (Cs (s:=0) z))).symm,
  λn h h'=>(e n h h').trans ((dg λp q y=>h' (by have:=c p q;rwa [y]at this)).trans ((aJ (a5.FA (a5.ew av h))).trans (dg λp q y=>by have:=(qO a q).2;omega))).symm⟩
theorem r8(a:ns.ah<=7)(b:∀n,10<=n->n∉ns->D n=Z.hT n)(h:10<=n):GS (mY D ns) (wr (kA D ns Z.hT) 2 (bL ns)) n=D n:=by
 by_cases z:n∈ns
 ·exact y_ z
 ·exact(dg λp q y=>z (by have:=ui q;rwa [y]at this)).trans ((aJ (a5.FA (a5.ew av h))).trans ((dg λp q y=>by have:=(qO a q).2;omega).trans (b n h z).symm))
theorem yk{r:am (a5×am cy)}(C:Cut D ns Z Y)(a:r.GT Y.bA)(f:Z.bA=[])(hh:Z.hT 2=zb)(b:ns.ah<=7)(d:ns.p9)(e:∀n,n∈ns->10<=n/\n<Z.nb)(c:∀n,10<=n->n∉ns->D n=Z.hT n):G7 Z.nb (GS r Y.hT) Z.hT D:=by
 have g:(Z1 D ns Z).hT=kA D ns Z.hT:=by show GS (Z.bA++m9 D ns 0) Z.hT=_;rw[f];rfl
 have j:(Z2 D ns Z).hT=wr (kA D ns Z.hT) 2 (bL ns):=by show wr (Z1 D ns Z).hT 2 (bL ns)=_;rw[g]
 have k:(Z3 D ns Z).hT=GS (mY D ns) (wr (kA D ns Z.hT) 2 (bL ns)):=by show GS (mY D ns) (Z2 D ns Z).hT=_;rw[j]
 obtain⟨t,rfl |rfl |rfl |rfl⟩:=C
 ·have a:r.GT (Z.bA++(m9 D ns 0).m0 t):=a;rw[f]at a;exact⟨[],.u0 (r7 hh λp z=>qO b (yc a z))⟩
 ·have a:r.GT ([(2,bL ns)].m0 t):=a;show G7 _ (GS r (Z1 D ns Z).hT) _ _;rw[g];rcases sub_one a with rfl |rfl
  ·exact⟨[],.u0 (r7 (r:=m9 D ns 0) hh λp z=>qO b z)⟩
  ·exact⟨ns,.wl (nC (r:=[]) b d e c λp z=>bC z)⟩
 ·have a:r.GT ((mY D ns).m0 t):=a;show G7 _ (GS r (Z2 D ns Z).hT) _ _;rw[j];exact⟨ns,.wl (nC b d e c λp z=>ui (yc a z))⟩
 ·have a:r.GT ([(2,bL [])].m0 t):=a;show G7 _ (GS r (Z3 D ns Z).hT) _ _;rw[k];rcases sub_one a with rfl |rfl
  ·exact⟨ns,.wl (nC b d e c λp z=>ui z)⟩
  ·exact⟨[],.wl ⟨(aW:wr (GS (mY D ns) (wr (kA D ns Z.hT) 2 (bL ns))) 2 (bL []) 2=_),.iv,a5.ri _,λX z=>bC z,λi n z=>dE z,λn h X=>((aJ (a5.FA (a5.ew av h))).trans (r8 b c h)).symm⟩⟩
theorem Mq:(Z4 D ns Z).hT 2=zb:=(aW:wr (Z3 D ns Z).hT 2 (bL []) 2=_).trans pv
theorem Mp(a:Z.bA=[])(b:ns.ah<=7)(c:∀n,10<=n->n∉ns->D n=Z.hT n)(h:10<=n):(Z4 D ns Z).hT n=D n:=by refine(aJ (a5.FA (a5.ew av h))).trans ?_;show GS (mY D ns) (wr (GS (Z.bA++m9 D ns 0) Z.hT) 2 (bL ns)) n=_;rw[a];exact r8 b c h
theorem Gz:(Z4 D ns Z).w=Z.w+(2*ns.ah+2):=by show(Z3 D ns Z).w+1=_;rw[Jv];omega
end
abbrev Cl(v i:a5):cy:=cy.kP (v/2^(8*i))
theorem u8{a b:a5}(h:a % 256=b % 256):cy.kP a=cy.kP b:=cy.fo.zv h
theorem BJ(v:a5)(h:v<65536):(Cl v 0).fo |||(Cl v 1).fo*2^8=v:=by show(v/1 % 256) |||(v/256 % 256)*2^8=v;rw[a5.or_comm,a5.mul_comm,←a5.two_pow_add_eq_or_of_lt (a5.mod_lt _ av),a5.Ik (a5.div_lt_of_lt_mul h),a5.div_one,a5.tz];exact a5.mod_add_div v 256
theorem BI(v:a5):v % 65536 |||v/65536*2^16=v:=by rw[a5.or_comm,a5.mul_comm,←a5.two_pow_add_eq_or_of_lt (a5.mod_lt _ av),a5.tz];exact a5.mod_add_div v 65536
theorem tS(v:a5):Cl (v % 65536) 0=Cl v 0:=u8 (show v % 65536/1 % 256=v/1 % 256 by rw[a5.div_one,a5.div_one];exact a5.mod_mod_of_dvd v ⟨256,rfl⟩)
theorem tR(v:a5):Cl (v % 65536) 1=Cl v 1:=u8 (show v % (256*256)/256 % 256=v/256 % 256 by rw[a5.mod_mul_right_div_self,a5.mod_mod])
theorem yG(v:a5):Cl (v/65536) 0=Cl v 2:=u8 (show v/65536/1 % 256=v/65536 % 256 by rw[a5.div_one])
theorem yF(v:a5):Cl (v/65536) 1=Cl v 3:=u8 (show v/65536/256 % 256=v/16777216 % 256 by rw[a5.div_div_eq_div_mul])
theorem Ml(v:a5):cy.kP (b0.kP ((v:b0).fo&&&(255:b0).fo)).fo=Cl v 0:=u8 (show(v&&&255) % 256=v/1 % 256 by rw[a5.sV v 8,a5.div_one];exact a5.mod_mod v 256)
theorem Jq(v:a5):cy.kP (b0.kP (((v:b0)/2^(8:b0).fo).fo&&&(255:b0).fo)).fo=Cl v 1:=u8 (show((v/256)&&&255) % 256=v/256 % 256 by refine ab (a5.sV (v/256) 8) ?_;exact a5.mod_mod _ 256)
section
variable{lp:ct}{d U:H}{t k v i:a5}{b:am cy}
def w2(b:am cy)(i v:a5):am cy:=(b.fC i (Cl v 0)).fC (i+1) (Cl v 1)
def w4(b:am cy)(i v:a5):am cy:=(((b.fC i (Cl v 0)).fC (i+1) (Cl v 1)).fC (i+2) (Cl v 2)).fC (i+3) (Cl v 3)
theorem Br{n:a5}(h:n<=1000000000):aP n:=jA (b0.bb (by decide) (b0.dv n)) (b0.sp.ow h)
theorem Gy{i j:a5}:V.bn ((i:b0)+(j:a5))=V.bn ((i+j:a5):b0):=rfl
theorem dr(h:d.ed t k=ap (.aB b))(h0:b[i]?=ap (Cl v 0))(h1:b[i+1]?=ap (Cl v 1))(a:v<65536)(hi:i+1<2^62):CA lp 1 63 [.bs t k,.bn i] d (.ok (.bn v) d):=by haveI e:V.bn ((i:b0)+1)=V.bn ((i+1:a5):b0):=rfl;haveI c:=a5.lt_of_succ_lt hi;haveI f:=Br (a5.l6 (a5.uo (Cl v 1).toNat_lt av));haveI p0:(0:b0)<=((Cl v 0).fo:b0):=b0.dv _;haveI p1:(0:b0)<=((Cl v 1).fo:b0)*2^(8:b0).fo:=b0.mul_nonneg (b0.dv _) (by decide);refine CA.vl ?_ (b5 V.bn (b5 b0.kP (BJ v a)));apply rt pF rfl rfl;fail"5C;X";apply bD.aB;fail"$$$A";apply EX.Kj;fail"(O16$";apply bD.aB;fail"$$$'";apply au.shl;fail"$";decide;decide;apply au.lor;fail"$$"
theorem eZ(h:d.ed t k=ap (.aB b))(h0:b[i]?=ap (Cl v 0))(h1:b[i+1]?=ap (Cl v 1))(h2:b[i+2]?=ap (Cl v 2))(h3:b[i+3]?=ap (Cl v 3))(c:v<4294967296)(hi:i+3<2^62):CA lp 2 64 [.bs t k,.bn i] d (.ok (.bn v) d):=by haveI a:v/65536<65536:=a5.div_lt_of_lt_mul c;haveI c1:=dr (lp:=lp) h (h0.trans (b5 ap (tS v).symm)) (h1.trans (b5 ap (tR v).symm)) (a5.mod_lt _ av) (a5.fp (a5.kQ av i) hi);haveI e:=dr (lp:=lp) h (h2.trans (b5 ap (yG v).symm)) (h3.trans (b5 ap (yF v).symm)) a hi;haveI f:aP ((v/65536:a5):b0):=Br (a5.l6 (a5.ew a av));haveI p0:(0:b0)<=((v % 65536:a5):b0):=b0.dv _;haveI p1:(0:b0)<=((v/65536:a5):b0)*2^(16:b0).fo:=b0.mul_nonneg (b0.dv _) (by decide);refine CA.vl (v:=.bn (b0.kP ((((v % 65536:a5):b0)).fo |||(((v/65536:a5):b0)*2^(16:b0).fo).fo))) ?_ (b5 V.bn (b5 b0.kP (BI v)));apply rt pE rfl rfl;fail"5C;";apply EX.Ai rfl;fail"*$'AF)()16,*$''";apply au.shl;fail"$";decide;decide;apply au.lor;fail"$$"
theorem kf(h:d.ed t k=ap (.aB b))(hi:i+1<b.ah)(hb:b.ah<=aQ):CA lp 1 65 [.bs t k,.bn i,.bn v] d (.ok .bk (d.fC t k (.aB (w2 b i v)))):=by
 haveI e:V.bn ((i:b0)+1)=V.bn ((i+1:a5):b0):=rfl;haveI a:i<b.ah:=a5.lt_of_succ_lt hi;haveI p0:(0:b0)<=(v:b0):=b0.dv _;haveI p1:(0:b0)<=(v:b0)/2^(8:b0).fo:=b0.ediv_nonneg p0 (by decide);haveI c:(b.fC i (cy.kP (b0.kP ((v:b0).fo&&&(255:b0).fo)).fo)).ah<=aQ:=by rw[am.x7];exact hb
 haveI f:i+1<(b.fC i (cy.kP (b0.kP ((v:b0).fo&&&(255:b0).fo)).fo)).ah:=by rw[am.x7];exact hi
 haveI q1:(0:b0)<=b0.kP ((v:b0).fo&&&(255:b0).fo):=b0.dv _;haveI q2:b0.kP ((v:b0).fo&&&(255:b0).fo)<256:=b0.hB.ow (a5.fp a5.and_le_right av);haveI g:(0:b0)<=b0.kP (((v:b0)/2^(8:b0).fo).fo&&&(255:b0).fo):=b0.dv _;haveI j:b0.kP (((v:b0)/2^(8:b0).fo).fo&&&(255:b0).fo)<256:=b0.hB.ow (a5.fp a5.and_le_right av);fail"i"
 ·apply nx n4 rfl rfl;fail"%T1l$";decide;fail"^((";apply gB.aB;fail"$$$$$%TA1";apply au.shr;decide;fail"'l$";decide;fail"^(O16$";apply gB.aB;fail".$$$$+"
 ·refine ab bF ?_;apply b5 (λl=>d.fC t k (.aB l));rw[Ml,Jq];rfl
theorem uJ(h:d.ed t k=ap (.aB b))(hi:i+3<b.ah)(hb:b.ah<=aQ):CA lp 2 66 [.bs t k,.bn i,.bn v] d (.ok .bk (d.fC t k (.aB (w4 b i v)))):=by
 haveI c1:=kf (lp:=lp) (i:=i) (v:=v % 65536) h (a5.fp (a5.kQ av i) hi) hb;haveI a:=kf (lp:=lp) (i:=i+2) (v:=v/65536 % 65536) (d:=d.fC t k (.aB (w2 b i (v % 65536)))) mx (by delta w2;rw[am.x7,am.x7];exact hi) (by delta w2;rw[am.x7,am.x7];exact hb);haveI p0:(0:b0)<=(v:b0):=b0.dv _;haveI p1:(0:b0)<=(v:b0)/2^(16:b0).fo:=b0.ediv_nonneg p0 (by decide);haveI c:V.bn (b0.kP ((v:b0).fo&&&(65535:b0).fo))=V.bn ((v % 65536:a5):b0):=b5 (λn:a5=>V.bn (b0.kP n)) (a5.sV v 16);haveI e:V.bn (b0.kP (((v:b0)/2^(16:b0).fo).fo&&&(65535:b0).fo))=V.bn ((v/65536 % 65536:a5):b0):=b5 (λn:a5=>V.bn (b0.kP n)) (a5.sV (v/65536) 16);fail"i"
 ·apply nx nZ rfl rfl;fail"%2F)()()O1l$";decide;fail"$,*$'%2F)()16)OA1";apply au.shr;decide;fail"'l$";decide;fail"$,*$'+"
 ·refine ab bF ?_;apply b5 (λl=>d.fC t k (.aB l));delta w2 w4;rw[tS,tR,tS,tR,yG,yF]
end
def eR(b:am cy)(a kd ln sz p0 p1 p2:a5):am cy:=w4 (w4 (w4 (w4 (w2 (w2 (w2 (w2 b a kd) (a+2) 0) (a+4) 0) (a+6) ln) (a+8) sz) (a+12) p0) (a+16) p1) (a+20) p2
def Ca(kd ln sz p0 p1 p2:a5):am cy:=am.f7 24 0++[Cl kd 0,Cl kd 1,Cl 0 0,Cl 0 1,Cl 0 0,Cl 0 1,Cl ln 0,Cl ln 1,Cl sz 0,Cl sz 1,Cl sz 2,Cl sz 3,Cl p0 0,Cl p0 1,Cl p0 2,Cl p0 3,Cl p1 0,Cl p1 1,Cl p1 2,Cl p1 3,Cl p2 0,Cl p2 1,Cl p2 2,Cl p2 3]
def bg(g I j:a5)(h kd ln sz:b0):O:=.qD [(29,.bs 16 g),(18,.bn I),(23,.bn h),(19,.bn kd),(27,.bn 0),(79,.bn 0),(20,.bn ln),(6,.bn sz),(80,.bs 29 j)]
section
variable{lp:ct}{d U:H}{g I a t k v i q j kd ln sz p0 p1 p2 J9 J8 JO q0 q1 q2:a5}{hh:b0}{b:am cy}
theorem iF(h:b.ah=48):(w2 b i v).ah=48:=by apply(am.x7).trans;exact ab am.x7 h
theorem iE(h:b.ah=48):(w4 b i v).ah=48:=by apply(am.x7).trans;exact ab am.x7 (ab am.x7 (ab am.x7 h))
theorem ph(h:d.ed 22 k=ap (.aB b))(a:b.ah=48)(hi:i+1<48):CA lp 1 65 [.bs 22 k,.bn i,.bn v] d (.ok .bk (d.fC 22 k (.aB (w2 b i v)))):=kf h (ab a hi) (ab a av)
theorem pw(h:d.ed 22 k=ap (.aB b))(a:b.ah=48)(hi:i+3<48):CA lp 2 66 [.bs 22 k,.bn i,.bn v] d (.ok .bk (d.fC 22 k (.aB (w4 b i v)))):=uJ h (ab a hi) (ab a av)
theorem K_(a:b.ah=48)(hi:i+1<48):CA lp 1 65 [.bs 22 k,.bn i,.bn v] (d.fC 22 k (.aB b)) (.ok .bk (d.fC 22 k (.aB (w2 b i v)))):=(ph mx a hi).st bF
theorem JR(a:b.ah=48)(hi:i+3<48):CA lp 2 66 [.bs 22 k,.bn i,.bn v] (d.fC 22 k (.aB b)) (.ok .bk (d.fC 22 k (.aB (w4 b i v)))):=(pw mx a hi).st bF
theorem w_(h:d.ed 15 q=ap (bg g I j hh kd ln sz))(h1:d.ed 29 j=ap (.dG [iV p0,iV p1,iV p2]))(h2:d.ed 22 k=ap (.aB b))(c:b.ah=48)(ha:a+24<=48):CA true 3 77 [.bs 15 q,.bs 22 k,.bn a] d (.ok .bk (d.fC 22 k (.aB (eR b a kd ln sz p0 p1 p2)))):=by
 haveI s1:=ph (lp:=true) (i:=a) (v:=kd) h2 c (by omega);haveI e:=iF (i:=a) (v:=kd) c;haveI z:=K_ (lp:=true) (d:=d) (k:=k) (i:=a+2) (v:=0) e (by omega);haveI f:=iF (i:=a+2) (v:=0) e;haveI A:=K_ (lp:=true) (d:=d) (k:=k) (i:=a+4) (v:=0) f (by omega);haveI l:=iF (i:=a+4) (v:=0) f;haveI B:=K_ (lp:=true) (d:=d) (k:=k) (i:=a+6) (v:=ln) l (by omega);haveI n:=iF (i:=a+6) (v:=ln) l;haveI C:=JR (lp:=true) (d:=d) (k:=k) (i:=a+8) (v:=sz) n (by omega);haveI o:=iE (i:=a+8) (v:=sz) n;haveI w:=JR (lp:=true) (d:=d) (k:=k) (i:=a+12) (v:=p0) o (by omega);haveI p:=iE (i:=a+12) (v:=p0) o;haveI x:=JR (lp:=true) (d:=d) (k:=k) (i:=a+16) (v:=p1) p (by omega);haveI t:=iE (i:=a+16) (v:=p1) p;haveI y:=JR (lp:=true) (d:=d) (k:=k) (i:=a+20) (v:=p2) t (by omega);clear c e f l n o p t;haveI r:∀{m:H} {s v:a5} {u:H},CA true 2 66 [.bs 22 k,.bn ((a:b0)+12+4*(s:b0)),.bn v] m (.ok .bk u)->SB true 2 [.bs 15 q,.bs 22 k,.bn a,.bn s,.bn v] m [.ex (.f 66 [.v 1,.b .s0 (.b .s0 (.v 2) (.g (.bn 12))) (.b .H3 (.c (.bn 4)) (.v 3)),.v 4])] .nx [.bs 15 q,.bs 22 k,.bn a,.bn s,.bn v] u:=λh=>by
  haveI D:aP 4:=jA (by decide) (by decide);fail"%2F)();161Z$6)(,*$'+"
 haveI E:aV true 2 (λm=>m.ed 29 j=ap (.dG [iV p0,iV p1,iV p2])) (λv vs cb=>∃ws,v=.KS ws/\ws.ah=[3,4].ah/\cb=bP [3,4] ws vs) [.ex (.f 66 [.v 1,.b .s0 (.b .s0 (.v 2) (.g (.bn 12))) (.b .H3 (.c (.bn 4)) (.v 3)),.v 4])] (fV 0 [iV p0,iV p1,iV p2]) [.bs 15 q,.bs 22 k,.bn a,.i1,.i1] (d.fC 22 k (.aB _)) .nx _ (d.fC 22 k (.aB _)):=.d2 (U:=d.fC 22 k (.aB _)) h1 ⟨_,rfl,rfl,rfl⟩ (r w) (.d2 (U:=d.fC 22 k (.aB _)) h1 ⟨_,rfl,rfl,rfl⟩ (r x) (.d2 (U:=d.fC 22 k (.aB _)) h1 ⟨_,rfl,rfl,rfl⟩ (r y) (.iv h1)));fail"i"
 ·apply nx iX rfl rfl;fail"%2F)()()&$',*$'%2F)()16)&$',*$'%2F)()16)&$',*$'%2F)()16)&$',*$'%2F)()16)&$',*$'%|j&$'$$+"
 ·rfl
theorem vo:eR (Ca J9 J8 JO q0 q1 q2) 24 kd ln sz p0 p1 p2=Ca kd ln sz p0 p1 p2:=by kernel_rfl
end
structure dK(b:am cy)(a kd ln sz p0 p1 p2:a5):Prop where
 h0:b[a]?=ap (Cl kd 0)/\b[a+1]?=ap (Cl kd 1)
 h1:b[a+2]?=ap (Cl 0 0)/\b[a+3]?=ap (Cl 0 1)
 h2:b[a+4]?=ap (Cl 0 0)/\b[a+5]?=ap (Cl 0 1)
 h3:b[a+6]?=ap (Cl ln 0)/\b[a+7]?=ap (Cl ln 1)
 h4:b[a+8]?=ap (Cl sz 0)/\b[a+9]?=ap (Cl sz 1)/\b[a+10]?=ap (Cl sz 2)/\b[a+11]?=ap (Cl sz 3)
 h5:b[a+12]?=ap (Cl p0 0)/\b[a+13]?=ap (Cl p0 1)/\b[a+14]?=ap (Cl p0 2)/\b[a+15]?=ap (Cl p0 3)
 h6:b[a+16]?=ap (Cl p1 0)/\b[a+17]?=ap (Cl p1 1)/\b[a+18]?=ap (Cl p1 2)/\b[a+19]?=ap (Cl p1 3)
 h7:b[a+20]?=ap (Cl p2 0)/\b[a+21]?=ap (Cl p2 1)/\b[a+22]?=ap (Cl p2 2)/\b[a+23]?=ap (Cl p2 3)
section
variable{lp:ct}{d U:H}{g I a t k v i q j kd ln sz p0 p1 p2 J9 J8 JO q0 q1 q2:a5}{hh:b0}{b:am cy}
theorem vS:CA lp 1 75 [.bs 15 (d.gz 15),.bs 16 g,.bn I] (d.hM 15 (.qD [])) (.ok .bk ((d.hM 15 (bg g I (d.gz 29) 1 0 0 0)).hM 29 (.dG []))):=by
 fail"i"
 ·apply nx mD rfl rfl;fail"%3('.'0%3('.'0%3='.'0%3";exact gi;fail"'.'0%3='.'0%3='.'0%3='.'0%3='.'0%3";apply EX.ls (ce:=29);fail",0'.'0+"
 ·refine ab (qh (by decide)) ?_;rw[bF,bF,bF,bF,bF,bF,bF,bF,qr];rfl
theorem uI(h:d.ed 15 q=ap (bg g I j 1 0 0 0))(h2:d.ed 22 k=ap (.aB b))(R:dK b a kd ln sz p0 p1 p2)(ha:a<=24)(b1:kd<65536)(e:ln<65536)(f:sz<4294967296)(l:p0<4294967296)(n:p1<4294967296)(o:p2<4294967296):
  CA true 3 76 [.bs 15 q,.bs 22 k,.bn a,.bn 2] d (.ok .bk ((d.fC 15 q (bg g I (d.gz 29) 1 kd ln sz)).hM 29 (.dG [iV p0,iV p1,iV p2]))):=by
 haveI p:∀m:H,m.ed 22 k=ap (.aB b)->CA true 1 63 [.bs 22 k,.bn (a:a5)] m (.ok (.bn kd) m):=λm h=>dr h R.h0.1 R.h0.2 b1 (by omega);haveI r:∀m:H,m.ed 22 k=ap (.aB b)->CA true 1 63 [.bs 22 k,.bn (a+2:a5)] m (.ok (.bn (0:a5)) m):=λm h=>dr h R.h1.1 R.h1.2 av (by omega);haveI s:∀m:H,m.ed 22 k=ap (.aB b)->CA true 1 63 [.bs 22 k,.bn (a+4:a5)] m (.ok (.bn (0:a5)) m):=λm h=>dr h R.h2.1 R.h2.2 av (by omega);haveI t:∀m:H,m.ed 22 k=ap (.aB b)->CA true 1 63 [.bs 22 k,.bn (a+6:a5)] m (.ok (.bn ln) m):=λm h=>dr h R.h3.1 R.h3.2 e (by omega);haveI u:∀m:H,m.ed 22 k=ap (.aB b)->CA true 2 64 [.bs 22 k,.bn (a+8:a5)] m (.ok (.bn sz) m):=λm h=>eZ h R.h4.1 R.h4.2.1 R.h4.2.2.1 R.h4.2.2.2 f (by omega);haveI w:aP 4:=jA (by decide) (by decide);haveI y:aP (2+1):=jA (by decide) (by decide);haveI x:∀m:H,m.ed 22 k=ap (.aB b)->bH 2 (λZ=>Fw) 4 (.f 64 [.v 1,.b .s0 (.b .s0 (.v 2) (.g (.bn 12))) (.b .H3 (.c (.bn 4)) (.v 4))]) [] [.bs 15 q,.bs 22 k,.bn a,.bn 2,.i1] (jo 0 1 3) m [iV p0,iV p1,iV p2] m:=λm h=>zZ (g:=λi=>iV (match i with |0=>p0 |1=>p1 |_=>p2)) λi hi=>by
  have go:∀{v:a5},CA true 2 64 [.bs 22 k,.bn ((a:b0)+12+4*(i:b0))] m (.ok (.bn v) m)->EX true 2 [.bs 15 q,.bs 22 k,.bn a,.bn 2,.bn i] m (.f 64 [.v 1,.b .s0 (.b .s0 (.v 2) (.g (.bn 12))) (.b .H3 (.c (.bn 4)) (.v 4))]) (.ok (iV v) m):=λc=>by
   fail"F)();;(";exact gi;fail"6;=(";exact au.mul w;fail"6,";exact c
  revert go
  refine Lm hi (λgo=>go (eZ (i:=a+12) h R.h5.1 R.h5.2.1 R.h5.2.2.1 R.h5.2.2.2 l (by omega))) (λgo=>go (eZ (i:=a+16) h R.h6.1 R.h6.2.1 R.h6.2.2.1 R.h6.2.2.2 n (by omega))) λgo=>go (eZ (i:=a+20) h R.h7.1 R.h7.2.1 R.h7.2.2.1 R.h7.2.2.2 o (by omega))
 fail"i"
 ·apply nx ip rfl rfl;fail"%3";apply EX.Ai rfl;(refine CA.up (p _ ?_) ?_;exact h2;decide);fail"'$'0%3F)()16,";(refine CA.up (r _ ?_) ?_;exact h2;decide);fail"'.'0%3F)()16,"
  (refine CA.up (s _ ?_) ?_;exact h2;decide);fail"'.'0%"
  fail"3F)()16,"
  (refine CA.up (t _ ?_) ?_;exact h2;decide);fail"'.'0%"
  fail"3F)()16,"
  (refine CA.up (u _ ?_) ?_;exact h2;decide);fail"'.'0%"
  fail"3";apply EX.lc (ce:=29);apply IT.er;fail")16,";apply rG.one;fail"$";decide;(exact x _ h2);fail"'.'0+"
 ·refine ab (qh (by decide)) ?_;simp only[bF];rfl
end
structure GK(Z:Mt)(D:Oc)(Y:Mt):Prop where
 nb:Y.nb=Z.nb
 g:Y.g=Z.g
 Dq:Y.Dq=Z.Dq
 bx:Y.bx=Z.bx
 dead:Y.dead=true
 G3:Y.bA.ah<=7
 MS:∀r,r.GT Y.bA->G7 Z.nb (GS r Y.hT) Z.hT D/\∀n,(GS r Y.hT n).ah=48
def jZ(g:a5):O:=.qD [(30,.bs 17 g),(81,.bs 12 g),(82,.bs 14 g),(83,.bs 28 g)]
structure Fix(d:H)(Z:Mt):Prop where
 nodes:d.ed 16 Z.g=ap (jZ Z.g)
 sup:d.ed 14 Z.g=ap (oR Z.nb)
 hd:Z.hT 2=zb
 kz:20<=Z.nb
def GL(B:a5->bS Bf):Prop:=∀n b,B n=ap b->b.sx=0
structure Mx(d:H)(Z:Mt)(D:Oc)(ns:am a5)(a:a5)(B:a5->bS Bf)(c:a5):Prop where
 F:FS d Z B c ns a
 j2:GL B
 dat:∀n,10<=n->dat Z B n=D n
 X:Fix d Z
 nd:ns.p9
def Op(d:H)(Z:Mt)(D:Oc)(ns:am a5)(a:a5):Prop:=∃B c,Mx d Z D ns a B c
structure JI(d:H)(Z:Mt)(D:Oc)(ns:am a5)(a n k:a5)(w:ct)(B:a5->bS Bf)(c p:a5):Prop where
 F:FS d Z B c ns a
 at_:B n=ap ⟨k,D n,1,p⟩
 j2:GL (up B n ⟨k,D n,0,p⟩)
 dat:∀m,10<=m->m≠n->dat Z B m=D m
 X:Fix d Z
 nd:ns.p9
 cl:w=false->p=0->D n=GS Z.bA Z.hT n
def eD(d:H)(Z:Mt)(D:Oc)(ns:am a5)(a n k:a5)(w:ct):Prop:=∃B c p,JI d Z D ns a n k w B c p
def uq(d:H)(t k:a5):am (a5×V):=match d.ed t k with |ap (.qD fs)=>fs |_=> []
def G8:am a5:=14::16::gI
def A6(S A:am a5):ct:=S.l3 λt=> !A.b6 t
def xt:am a5:=15::28::29::32::40::gI
section
variable{lp:ct}{d U:H}{n m k a cc:a5}{w:ct}{o:am cy}{ns:am a5}{Z Y:Mt}{D:Oc}{P:Prop}{B B':a5->bS Bf}{b:Bf}
theorem wM(h:ns.ah<=7):(bL ns).ah=48:=by
 have e:(gF (ns.ah::ns)).ah=4*(ns.ah+1):=jl;unfold bL;rw[am.ep,am.Fk,e]
 omega
theorem mW:∀{l:am (a5×am cy)} {k:Oc},(∀n,(k n).ah=48)->(∀p,p∈l->p.2.ah=48)->∀n,(GS l k n).ah=48:=by
 intro a
 induction a with
 |iv=>exact λh Z=>h
 |d2 p l b=>
  intro k h1 h2;refine b (λn=>?_) λq z=>h2 q (.sy _ z);delta wr
  split
  ·exact h2 p (.sk _)
  ·exact h1 n
theorem FK:∀{l:am a5} {s:a5} {p:a5×am cy},p∈m9 D l s->∃n,n∈l/\p.2=D n:=by
 intro a
 induction a with
 |iv=>exact λh=>bC h
 |d2 n l b=>
  intro s p h;rcases am.hD.mp h with rfl |h
  ·exact⟨n,.sk _,rfl⟩
  ·obtain⟨m,z,e⟩:=b h;exact⟨m,.sy _ z,e⟩
theorem zX(C:Cut D ns Z Y)(c:Z.bA=[])(hh:Z.hT 2=zb)(b:ns.ah<=7)(j:ns.p9)(k:∀n,n∈ns->10<=n/\n<Z.nb)(m:∀n,10<=n->n∉ns->D n=Z.hT n)(f:∀n,(Z.hT n).ah=48)(g:∀n,n∈ns->(D n).ah=48):GK Z D Y:=by
 have a1:∀p,p∈m9 D ns 0->p.2.ah=48:=λp z=>(FK z).ef λn y=>y.2▸g n y.1;have e:∀{h:am a5},h.ah<=7->∀p,p∈[(2,bL h)]->p.2.ah=48:=λz p y=>by rw[am.e0.mp y];exact wM z
 have i:∀p,p∈mY D ns->p.2.ah=48:=λp z=>(am.JQ.mp z).ef λn y=>by rw[←y.2];exact g n y.1
 have k1:∀n,((Z1 D ns Z).hT n).ah=48:=mW f (by rw[c];exact a1);have k2:=mW k1 (e b);have k3:=mW k2 i;have d:∀r,r.GT Y.bA->(∀n,(Y.hT n).ah=48)->(∀p,p∈Y.bA->p.2.ah=48)->G7 Z.nb (GS r Y.hT) Z.hT D/\∀n,(GS r Y.hT n).ah=48:=λr a h1 h2=>⟨yk C a c hh b j k m,mW h1 λp z=>h2 p (a.subset z)⟩;have tk:∀{l:am (a5×am cy)} {t:a5},l.ah<=7->(l.m0 t).ah<=7:=λh=>by rw[am.w1];omega
 obtain⟨t,rfl |rfl |rfl |rfl⟩:=C
 ·refine⟨rfl,rfl,rfl,rfl,rfl,?_,λr a=>d r a f ?_⟩
  ·show(Z.bA++(m9 D ns 0).m0 t).ah<=7;rw[c];exact tk (by rw[qP];exact b)
  ·show∀p,p∈Z.bA++(m9 D ns 0).m0 t->_;rw[c];exact λp z=>a1 p ((am.Fd ..).subset z)
 ·exact⟨rfl,rfl,rfl,rfl,rfl,tk av,λr a=>d r a k1 λp z=>e b p ((am.Fd ..).subset z)⟩
 ·exact⟨rfl,rfl,rfl,rfl,rfl,tk (by unfold mY;rw[am.fz];exact b),λr a=>d r a k2 λp z=>i p ((am.Fd ..).subset z)⟩
 ·exact⟨rfl,rfl,rfl,rfl,rfl,tk av,λr a=>d r a k3 λp z=>e (a5.ri _) p ((am.Fd ..).subset z)⟩
theorem uB:dat Z (up B n b) m=if m=n then b.hy else dat Z B m:=by
 delta dat up;by_cases h:m=n
 ·rw[et h,et h]
 ·rw[dx h,dx h]
theorem kT{t k:a5}{fs:am (a5×V)}(h:d.ed t k=ap (.qD fs)):d.ed t k=ap (.qD (uq d t k)):=by unfold uq;exact ab h rfl
theorem Fix.fr(X:Fix d Z){S:am a5}(h:Fr S d U)(e:(S.b6 14 ||S.b6 16)=false):Fix U Z:=by haveI a:=ct.kb.mp e;exact⟨Fr.at h X.nodes a.2,Fr.at h X.sup a.1,X.hd,X.kz⟩
section
variable{S:am a5}
theorem A6.py{A:am a5}(e:A6 S A=true):∀t,A.b6 t=true->S.b6 t=false:=λt q=>ct.sA.ow λy=>by
 have:=am.nw.mp e t (am.fA.mp y);replace this:=q▸this;exact dP this
theorem FS.py(F:FS d Z B cc ns a)(h:Fr S d U)(z:∀t,G8.b6 t=true->S.b6 t=false):FS U Z B cc ns a:=⟨F.K.fr h (by rw[z 11 rfl,z 12 rfl,z 20 rfl,z 21 rfl,z 22 rfl];rfl) (by rw[z 13 rfl,z 23 rfl,z 24 rfl,z 25 rfl];rfl),F.J.fr h (by rw[z 17 rfl,z 26 rfl,z 27 rfl];rfl),F.wY,F.pin,F.has⟩
theorem Fix.py(X:Fix d Z)(h:Fr S d U)(z:∀t,G8.b6 t=true->S.b6 t=false):Fix U Z:=X.fr h (by rw[z 14 rfl,z 16 rfl];rfl)
theorem Op.fr(O:Op d Z D ns a)(h:Fr S d U)(e:A6 S G8=true):Op U Z D ns a:=O.ef λY z=>z.ef λY r=>⟨_,_,r.F.py h (A6.py e),r.j2,r.dat,r.X.py h (A6.py e),r.nd⟩
theorem eD.fr(O:eD d Z D ns a n k w)(h:Fr S d U)(e:A6 S G8=true):eD U Z D ns a n k w:=O.ef λY z=>z.ef λY z=>z.ef λY r=>⟨_,_,_,r.F.py h (A6.py e),r.at_,r.j2,r.dat,r.X.py h (A6.py e),r.nd,r.cl⟩
end
theorem Op.c(O:Op d Z D ns a):d.ed 12 Z.g=ap (.qD (uq d 12 Z.g)):=O.ef λY z=>z.ef λY z=>kT z.F.K.C.q.pu
theorem Op.j(O:Op d Z D ns a):d.ed 17 Z.g=ap (.qD (uq d 17 Z.g)):=O.ef λY z=>z.ef λY z=>kT z.F.J.q.iP
theorem Op.x(O:Op d Z D ns a):Fix d Z:=O.ef λY z=>z.ef λY z=>z.X
theorem Op.ob(O:Op d Z D ns a):d.ed 16 Z.g=ap (jZ Z.g):=O.x.nodes
theorem Op.s(O:Op d Z D ns a):d.ed 14 Z.g=ap (oR Z.nb):=O.x.sup
theorem eD.c(O:eD d Z D ns a n k w):d.ed 12 Z.g=ap (.qD (uq d 12 Z.g)):=O.ef λY z=>z.ef λY z=>z.ef λY z=>kT z.F.K.C.q.pu
theorem eD.j(O:eD d Z D ns a n k w):d.ed 17 Z.g=ap (.qD (uq d 17 Z.g)):=O.ef λY z=>z.ef λY z=>z.ef λY z=>kT z.F.J.q.iP
theorem eD.x(O:eD d Z D ns a n k w):Fix d Z:=O.ef λY z=>z.ef λY z=>z.ef λY z=>z.X
theorem eD.ob(O:eD d Z D ns a n k w):d.ed 16 Z.g=ap (jZ Z.g):=O.x.nodes
theorem eD.s(O:eD d Z D ns a n k w):d.ed 14 Z.g=ap (oR Z.nb):=O.x.sup
theorem eD.l(O:eD d Z D ns a n k w):(D n).ah=48:=O.ef λY z=>z.ef λY z=>z.ef λY z=>(z.F.K.C.q.buf n _ z.at_).2.2.1
theorem eD.fC(O:eD d Z D ns a n k w)(e:o.ah=48):eD (d.fC 22 k (.aB o)) Z (wr D n o) ns a n k true:=by
 refine jn O λB c p z=>?_;refine⟨_,c,p,⟨(A2 z.F.K z.at_ e),z.F.J.fr (S:=[22]) (.fC rfl .hJ) rfl,z.F.wY,λm b h=>?_,λm h=>⟨λy=>(z.F.has m h).1 (qc y),(z.F.has m h).2⟩⟩,aW▸bB,?_,λm h1 h2=>?_,z.X.fr (S:=[22]) (.fC rfl .hJ) rfl,z.nd,λy=>mj y⟩
 ·by_cases y:m=n
  ·subst y;obtain rfl:=bS.ap.zv (bB.symm.trans h);exact show p=_ from z.F.pin m _ z.at_
  ·exact z.F.pin m b ((cf y).symm.trans h)
 ·rw[DB];exact λm b h=>by
   by_cases y:m=n
   ·subst y;exact lG (bS.ap.zv (bB.symm.trans h)) rfl
   ·exact z.j2 m b ((cf y).trans ((cf y).symm.trans h))
 ·exact ab (aJ h2) (ab uB (ab (dx h2) (z.dat m h1 h2)))
theorem eD.Hv(O:eD d Z D ns a n k w){b:am cy}(e:b=o)(c:o.ah=48):eD (d.fC 22 k (.aB b)) Z (wr D n o) ns a n k true:=by subst e;exact O.fC c
end
section
variable{lp:ct}{d U:H}{n m k a:a5}{w:ct}{o:am cy}{ns:am a5}{Z Y:Mt}{D:Oc}{P:Prop}{B B':a5->bS Bf}{b:Bf}
theorem Dh(h:ns.p9):(aY ns n).p9:=by
 unfold aY;cases q:ns.b6 n with
 |true=>exact h
 |false=>exact am.nodup_append.ow ⟨h,am.p5.ow ⟨(λz=>bC z),.iv⟩,λa ha b hb e=>by
   rw[e,am.e0.mp hb,←am.fA,q]at ha;cases ha⟩
theorem FS.LM{c:a5}(F:FS d Z B c ns a)(hf:GL B):∀n b,B n=ap b->n∉ns->b.sx=0/\b.pins=0:=λn b q z=>⟨hf n b q,(F.pin n b q).trans (dx λy=>z (am.fA.mp y))⟩
theorem FS.HB{c:a5}(F:FS d Z B c ns a)(h:n∉ns):c_ B n=0:=by
 delta c_;cases hb:B n with
 |bk=>rfl
 |ap b=>exact(F.pin n b hb).trans (dx λy=>h (am.fA.mp y))
theorem Mx.py{c:a5}(r:Mx d Z D ns a B c)(b:10<=n)(h:n∉ns):D n=Z.hT n:=by
 have:=(r.dat n b).symm.trans (i6 r.F.K (r.j2 n) (r.F.HB h))
 rwa [r.F.wY]at this
theorem Op.s8(O:Op d Z D [] a)(b:10<=n):Z.hT n=D n:=O.ef λY z=>z.ef λY r=>(r.py b λz=>bC z).symm
theorem iM(O:Op d Z D ns a)(g:a5.ble 10 n=true)(hn:n<20\/n<Z.nb)(s:∀k p m,CA true 3 44 [.bs 12 Z.g,.bn n] d (.ok (.bs 11 k) m)->eD m Z D ns a n k false->m.ed 11 k=ap (pR n ⟨k,D n,1,p⟩)->m.ed 22 k=ap (.aB (D n))->Fr gI d m->P):P:=by
 refine f_ O λB c r=>?_;have g:=a5.ft g;have hn:=hn.ef (λz=>a5.ew z r.X.kz) id;have i:=r.dat n g;refine Ar r.F.K hn (a5.bb r.F.J.q.ER av) (r.F.LM r.j2) (r.j2 n) λm B' t k c1 j hb hi l=>?_;rw[i]at hb;haveI fr:=l.hA (S':=gI) rfl;haveI b:=j.C.q.buf n _ hb;have o:∀x,x≠n->∀b,B' x=ap b->B x=ap b:=λx y b h=>(hi x y).ef (λe=>e.symm.trans h) λe=>dE (e.1.symm.trans h);refine s k _ m c1 ⟨B',t,c_ B n,⟨j,r.F.J.fr l rfl,r.F.wY,λx b h=>?_,λx h=>⟨λy=>?_,(r.F.has x h).2⟩⟩,hb,?_,λx h1 h2=>?_,r.X.fr fr rfl,r.nd,λY h=>?_⟩ b.1 b.2.1 fr
 ·by_cases y:x=n
  ·subst y;obtain rfl:=bS.ap.zv (hb.symm.trans h);show c_ B x=_;cases q:ns.b6 x with
   |false=>exact r.F.HB λz=>by rw[am.fA.ow z]at q;exact mj q
   |true=>
    have u:=r.F.has x (am.fA.mp q);delta c_;cases f:B x with
    |bk=>exact kk f u.1
    |ap b=>exact(r.F.pin x b f).trans (et q)
  ·exact r.F.pin x b (o x y b h)
 ·by_cases z:x=n
  ·subst z;exact dE (y.symm.trans hb)
  ·rcases hi x z with e |e
   ·exact(r.F.has x h).1 (e.symm.trans y)
   ·refine aN (bS.ne_none_iff_exists'.mp (r.F.has x h).1) λb q=>?_;have:=(r.F.pin x b q).trans (et (am.fA.ow h));exact kk ((e.2 b q).2.symm.trans this) a5.zero_ne_one
 ·exact λx b h=>by
   by_cases y:x=n
   ·subst y;exact lG (bS.ap.zv (bB.symm.trans h)) rfl
   ·exact r.j2 x b (o x y b ((cf y).symm.trans h))
 ·rcases hi x h2 with e |e
  ·refine Eq.trans ?_ (r.dat x h1);delta K.dat;rw[e]
  ·refine Eq.trans ?_ (r.dat x h1);refine Eq.trans ?_ (i6 r.F.K (r.j2 x) ?_).symm
   ·delta K.dat;rw[e.1]
   ·delta c_;cases f:B x with
    |bk=>rfl
    |ap b=>exact(e.2 b f).2
 ·exact i.symm.trans (i6 r.F.K (r.j2 n) h)
theorem iL(O:eD d Z D ns a n k false)(e:∀m,CA true 2 46 [.bs 12 Z.g,.bs 11 k] d (.ok .bk m)->Op m Z D ns a->Fr gI d m->P):P:=by
 refine jn O λB c p z=>?_;refine ar (l_ (lp:=true) z.F.K z.at_ (z.cl rfl)) λm c1 q=>?_;haveI fr:=q.2.hA (S':=gI) rfl;refine e m c1 ⟨_,_,⟨q.1,z.F.J.fr q.2 rfl,z.F.wY,λx b h=>?_,λx h=>⟨λy=>(z.F.has x h).1 (qc y),(z.F.has x h).2⟩⟩,z.j2,λx h1=>?_,z.X.fr fr rfl,z.nd⟩ fr
 ·clear fr q c1 m e O;by_cases y:x=n
  ·subst y;obtain rfl:=bS.ap.zv (bB.symm.trans h);exact show p=_ from z.F.pin x _ z.at_
  ·exact z.F.pin x b ((cf y).symm.trans h)
 ·refine ab uB ?_;clear fr q c1 m e O;by_cases y:x=n
  ·exact ab (et y) (ab y rfl)
  ·exact ab (dx y) (z.dat x h1 y)
theorem yK(O:eD d Z D ns 1 n k w)(a:a5.ble 10 n=true)(e:ns.ah<=6)(f:∀m,CA true 3 110 [.bs 17 Z.g,.bs 11 k] d (.ok .bk m)->eD m Z D (aY ns n) 1 n k false->Fr gI d m->P):P:=by
 refine jn O λB c p z=>?_;refine ar (Aq (lp:=true) z.F z.at_ (a5.ft a) e) λm c1 q=>?_;haveI fr:=q.2.hA (S':=gI) rfl;refine f m c1 ⟨_,_,1,q.1,bB,?_,λx h1 h2=>?_,z.X.fr fr rfl,Dh z.nd,λY y=>kk y a5.Kg⟩ fr
 ·rw[DB];exact λm b h=>by
   clear fr q c1 f e a O;by_cases y:m=n
   ·clear z p c;subst y;exact lG (bS.ap.zv (bB.symm.trans h)) rfl
   ·exact z.j2 m b ((cf y).trans ((cf y).symm.trans h))
 ·exact ab uB (ab (dx h2) (z.dat x h1 h2))
theorem vv(O:Op d Z D [] 0)(a:∀m,CA lp 2 109 [.bs 17 Z.g] d (.ok .bk m)->Op m Z D [] 1->Fr gI d m->P):P:=by refine f_ O λB c r=>?_;refine ar (C7 (lp:=lp) r.F) λm c1 q=>?_;exact a m c1 ⟨B,c,q.1,r.j2,r.dat,r.X.fr (q.2.hA (S':=gI) rfl) rfl,r.nd⟩ (q.2.hA rfl)
theorem E9(O:Op d Z D ns a):CA lp 1 108 [.bs 17 Z.g] d (.ok (.bn (7 - ns.ah)) d):=O.ef λY z=>z.ef λY z=>Gg z.F.J
theorem DI(O:Op d Z D ns 1)(h0:ns≠[])(l:Z.w+40<=aQ)(o:∀m,CA true 7 111 [.bs 17 Z.g] d (.ok .bk m)->Op m (Z4 D ns Z) D [] 0->Fr gI d m->P)
  (s:∀m Y,CA true 7 111 [.bs 17 Z.g] d (.exc 5 m)->aS m Y->GK Z D Y->Fr gI d m->P):P:=by
 refine f_ O λB c r=>?_;have e:=r.F.J.q.ER;have hs:∀n,n∈ns->∃b,B n=ap b/\b.sx=0/\b.pins=1/\b.hy=D n:=λn z=>by
  refine aN (bS.ne_none_iff_exists'.mp (r.F.has n z).1) λb q=>⟨b,q,r.j2 n b q,(r.F.pin n b q).trans (et (am.fA.ow z)),?_⟩;refine Eq.trans ?_ (r.dat n (r.F.has n z).2);delta K.dat;rw[q]
 have g:∀n,n∈ns->10<=n/\n<Z.nb:=λn z=>⟨(r.F.has n z).2,(hs n z).ef λb q=>r.F.K.er n b q.1⟩;have i:∀n,10<=n->n∉ns->D n=Z.hT n:=λn h z=>r.py h z;have j:CE d Z D ns:=⟨B,c,r.F.K,λn z=>by obtain⟨⟨k,dt,h,p⟩,q,rfl,rfl,rfl⟩:=hs n z;exact⟨k,q⟩,r.F.LM r.j2⟩;have t:∀n,(Z.hT n).ah=48:=λn=>by have:=r.F.K.ER n;rwa [r.F.wY]at this
 refine Jg h0 e r.nd g r.X.kz l r.F.wY j r.F.J.q.iP r.F.J.q.nums (λm c1 u v a=>?_) (λm Y c1 D1 C1 a=>?_)
 ·refine f_ u λB' w L=>?_;have f:=r.X.fr a rfl;refine o m c1 ⟨B',w,⟨L.K,v,rfl,λn b h=>(L.LM n b h λz=>bC z).2,λn h=>bC h⟩,L.j2,λn h=>(L.d0 λz=>bC z).trans (Mp r.F.wY e i h),⟨f.nodes,f.sup,Mq,f.kz⟩,.iv⟩ a
 ·exact s m Y c1 D1 (zX C1 r.F.wY r.X.hd e r.nd g i t λn z=>j.ER z) a
theorem E_(O:Op d Z D ns 1)(h0:ns≠[])(a:Z.w+40<=aQ)(p1:Z.Dq=bk)(p2:Z.bx=bk)(b:∀m,CA true 7 111 [.bs 17 Z.g] d (.ok .bk m)->Op m (Z4 D ns Z) D [] 0->Fr gI d m->P):P:=
 DI O h0 a b λm Y X D1 G X=>(D1.q.pw G.dead (G.Dq.trans p1) (G.bx.trans p2)).ef
end
structure dO(d:H)(g I q:a5)(h:b0)(kd ln sz p0 p1 p2 j:a5):Prop where
 K1:d.ed 15 q=ap (bg g I j h kd ln sz)
 pl:d.ed 29 j=ap (.dG [iV p0,iV p1,iV p2])
section
variable{lp:ct}{d U:H}{Z:Mt}{g I n k a q j kd ln sz p0 p1 p2 J9 J8 JO q0 q1 q2:a5}{hh:b0}{o:am cy}{ns:am a5}{D:Oc}{P:Prop}
theorem dO.fr(X:dO d g I q hh kd ln sz p0 p1 p2 j){S:am a5}(h:Fr S d U)(e:(S.b6 15 ||S.b6 29)=false):dO U g I q hh kd ln sz p0 p1 p2 j:=by haveI a:=ct.kb.mp e;exact⟨Fr.at h X.K1 a.1,Fr.at h X.pl a.2⟩
theorem Ak(h:d.ed 14 g=ap (oR n)):CA lp 1 73 [.bs 14 g,.bn I] d (.ok (.KS [.bn (10+I/2:a5),.bn (I % 2*24:a5)]) d):=Aj h
theorem kL(O:Op d Z D ns 1)(g:ns.ah<=6)(u:I<=3)(N:dO d Z.g I q hh kd ln sz p0 p1 p2 j)(h:∀m,CA true 4 90 [.bs 16 Z.g,.bs 15 q] d (.ok .bk m)->Op m Z (wr D (10+I/2) (eR (D (10+I/2)) (I % 2*24) kd ln sz p0 p1 p2)) (aY ns (10+I/2)) 1->Fr gI d m->P):P:=by haveI v:=O.ob;haveI w:=O.s;haveI x:=N.K1;haveI y:=O.c;haveI c0:=Ak (lp:=true) (I:=I) O.s;have hb:a5.ble 10 (10+I/2)=true:=a5.ov (a5.f0 _ _);refine iM O hb (.u0 (by omega)) λk p m1 c1 b b1 i e=>?_;haveI f:=N.fr e rfl;haveI l:=f.K1;haveI z:=w_ l f.pl i b.l (a:=I % 2*24) (by omega);refine yK (b.fC (o:=eR (D (10+I/2)) (I % 2*24) kd ln sz p0 p1 p2) (iE (iE (iE (iE (iF (iF (iF (iF b.l))))))))) hb g λA B c n=>?_;haveI C:=b.ob;haveI E:=b.j;haveI F:=c.ob;haveI G:=c.c;refine iL c λr H s t=>h r ?_ s ((e.trans (.fC rfl .hJ)).trans (n.trans t));apply nx iU rfl rfl;fail"%pm&$'$')&$',*$''NKNKk%9<&$'$''*$'%2P$')&$')(,*$'%2<&$'$''*$'%2<&$'$''*$'+"
theorem jM(X:Fix d Z)(h1:1<=I)(h2:I<=3):CA lp 1 86 [.bs 16 Z.g,.bn I] d (.ok .bk d):=by haveI a:=X.nodes;haveI b:=X.sup;haveI c:=dT (b0.sp.ow h1);haveI e:=J0 (b0.hB.ow (a5.JV h2));apply nx eI rfl rfl;fail"%4f";apply ET.oi;fail"=({$E&$'$'?$++"
theorem Gh(h:d.ed 15 q=ap (bg g I j hh kd ln sz)):CA lp 1 83 [.bs 15 q] d (.ok (.bs 15 q) (d.fC 15 q (bg g I j (hh+1) kd ln sz))):=by apply rt mE rfl rfl;fail"%3A&$''6'$'05L"
theorem BQ(O:Op d Z D ns 1)(f:ns.ah<=6)(e:a5.ble 10 n=true)(hn:n<20\/n<Z.nb)(g:∀m,CA true 4 95 [.bs 16 Z.g,.bn n] d (.ok .bk m)->Op m Z (wr D n (am.f7 48 0)) (aY ns n) 1->Fr gI d m->P):P:=by haveI s:=O.ob;haveI t:=O.c;refine iM O e hn λk p m1 c1 a b1 h i=>?_;haveI u:=C3 (lp:=true) (b:=⟨k,D n,1,p⟩) b1 h a.l;refine yK (a.fC (o:=am.f7 48 0) rfl) e f λv w c j=>?_;haveI x:=a.ob;haveI y:=a.j;haveI z:=c.ob;haveI A:=c.c;refine iL c λl B q r=>g l ?_ q ((i.trans (.fC rfl .hJ)).trans (j.trans r));apply nx eK rfl rfl;fail"%9<&$'$''*$'%27$''*$'%2<&$'$''*$'%2<&$'$''*$'+"
end
def b1(nb:a5):cy:=match nb with |0=>0 |1=>32 |2=>96 |_=>224
def b2(nb:a5):cy:=match nb with |4=>1 |5=>3 |6=>7 |7=>15 |8=>31 |_=>0
def bm(nb:a5):am cy:=0::b1 nb::b2 nb::am.f7 45 0
abbrev sY(i:a5):a5:=(13+i)/8
abbrev ky(i:a5):a5:=2^((13+i) % 8)
def bt(nb i:a5):cy:=(bm nb).ww (sY i) 0
theorem md(i:a5)(h:i<=18):sY i<48:=by unfold sY;omega
theorem vW(nb i:a5)(h:i<=18):(bm nb)[sY i]?=ap (bt nb i):=by have e:=am.wE (l:=bm nb) (md i h);unfold bt;rw[am.y2,e];rfl
theorem uS:∀nb,nb<=8->∀i,i<=18->(b0.kP (((bt nb i).fo:b0).fo&&&((ky i:a5):b0).fo)==0)=a5.ble nb i:=by decide+kernel
theorem Gk:∀nb,nb<=7->(bm nb).fC (sY nb) (cy.kP (b0.kP (((bt nb nb).fo:b0).fo |||((ky nb:a5):b0).fo)).fo)=bm (nb+1):=by decide+kernel
theorem Ji:∀nb,nb<=7->b0.kP (((bt nb nb).fo:b0).fo |||((ky nb:a5):b0).fo)<256:=by decide+kernel
theorem AL:∀i,i<=18->12+((13+i:a5):b0)/2^(3:b0).fo/48=12/\((13+i:a5):b0)/2^(3:b0).fo % 48=(sY i:a5)/\1*2^(b0.kP (((13+i:a5):b0).fo&&&(7:b0).fo)).fo=((ky i:a5):b0):=by decide+kernel
section
variable{lp:ct}{d U:H}{Z:Mt}{n k a i nb:a5}{o:am cy}{ns:am a5}{D:Oc}
theorem i9(X:Fix d Z)(hi:i<=18):CA lp 1 74 [.bs 14 Z.g,.bn (13+i:a5)] d (.ok (.KS [.bn 12,.bn (sY i),.bn (ky i)]) d):=by
 have g:=X.sup;haveI p0:(0:b0)<=((13+i:a5):b0):=b0.dv _;haveI p1:(0:b0)<=b0.kP (((13+i:a5):b0).fo&&&(7:b0).fo):=b0.dv _;haveI p2:b0.kP (((13+i:a5):b0).fo&&&(7:b0).fo)<=64:=b0.sp.ow (a5.bb a5.and_le_right av);haveI a:aP 1:=jA (by decide) (by decide);apply CA.vl (v:=.KS [.bn (12+((13+i:a5):b0)/2^(3:b0).fo/48),.bn (((13+i:a5):b0)/2^(3:b0).fo % 48),.bn (1*2^(b0.kP (((13+i:a5):b0).fo&&&(7:b0).fo)).fo)])
 ·apply rt iT rfl rfl;fail"%91";apply au.shr;decide;fail"5C";apply EX.tp;fail");&$';(&$'h";decide;decide;fail"6);(&$'v";decide;fail");=1l$";decide;apply au.shl;fail"$$$,0"
 ·rw[(AL i hi).1,(AL i hi).2.1,(AL i hi).2.2]
theorem zJ(X:Fix d Z)(hi:13+i<Z.nb){v w x y z:V}:ET true 1 [.bs 16 Z.g,v,w,.bn (13+i:a5),x,y,z] d (.mc .Lt (.v 3) (.a (.a (.v 0) 82) 53)) (.ok true d):=by haveI a:=X.nodes;haveI b:=X.sup;refine ab ((dT (b0.hB.ow hi)).symm) ?_;fail">(E&$'$'?"
theorem FN(X:Fix d Z)(h:d.ed 22 k=ap (.aB (bm i)))(hi:i<=7){x y z:V}:SB true 1 [.bs 16 Z.g,.bs 22 k,.bn 12,.bn (13+i:a5),x,y,z] d [.ast [.v 4,.v 5,.v 6] (.m (.a (.v 0) 82) 91 [.v 3]),.xD (.bo false [.mc .FT (.v 4) (.v 2),.mc .Eq (.b .GZ (.s (.v 1) (.v 5)) (.v 6)) (.c (.bn 0))]) [.rt (.v 3)] [],.as (.v 3) (.b .s0 (.v 3) (.c (.bn 1)))]
  (.rt (.bn (13+i:a5))) [.bs 16 Z.g,.bs 22 k,.bn 12,.bn (13+i:a5),.bn 12,.bn (sY i),.bn (ky i)] d:=by haveI c:=X.nodes;haveI e:=X.sup;have a:i<=18:=a5.bb hi av;haveI c1:=i9 (lp:=true) X a;haveI f:=vW i i a;haveI b:=uS i (a5.zu hi) i a;rw[a5.ov (a5.i3 i)]at b;haveI q1:sY i<2^62:=a5.uo (md i a) av;haveI p0:(0:b0)<=((bt i i).fo:b0):=b0.dv _;haveI p1:(0:b0)<=((ky i:a5):b0):=b0.dv _;fail"%p<&$'$''*$''NKNKNKk5RH:8";exact aq.BZ;fail"'tBAX";apply bD.aB;fail"$$$'l$$'D$'5L"
theorem IJ(X:Fix d Z)(h:d.ed 22 k=ap (.aB (bm nb)))(hn:nb<=7)(hi:i<nb){x y z:V}:SB true 1 [.bs 16 Z.g,.bs 22 k,.bn 12,.bn (13+i:a5),x,y,z] d [.ast [.v 4,.v 5,.v 6] (.m (.a (.v 0) 82) 91 [.v 3]),.xD (.bo false [.mc .FT (.v 4) (.v 2),.mc .Eq (.b .GZ (.s (.v 1) (.v 5)) (.v 6)) (.c (.bn 0))]) [.rt (.v 3)] [],.as (.v 3) (.b .s0 (.v 3) (.c (.bn 1)))]
  .nx [.bs 16 Z.g,.bs 22 k,.bn 12,.bn (13+(i+1):a5),.bn 12,.bn (sY i),.bn (ky i)] d:=by haveI c:=X.nodes;haveI e:=X.sup;have a:i<=18:=a5.bb (a5.l6 hi) (a5.bb hn av);haveI c1:=i9 (lp:=true) X a;haveI f:=vW nb i a;haveI b:=uS nb (a5.zu hn) i a;rw[show a5.ble nb i=false from ct.sA.ow λz=>a5.Km.ow hi (a5.ft z)]at b;haveI q1:sY i<2^62:=a5.uo (md i a) av;haveI p0:(0:b0)<=((bt nb i).fo:b0):=b0.dv _;haveI p1:(0:b0)<=((ky i:a5):b0):=b0.dv _;fail"%p<&$'$''*$''NKNKNKk%4H:8";exact aq.BZ;fail"':BAX";apply bD.aB;fail"$$$'l$$'D$M'+%916+"
theorem FL(X:Fix d Z)(h:d.ed 22 k=ap (.aB (bm nb)))(hn:nb<=7)(b:13+nb<Z.nb):∀{j i:a5} {x y z:V},i+j=nb->∃n c e f,jw true 1 (.mc .Lt (.v 3) (.a (.a (.v 0) 82) 53)) [.ast [.v 4,.v 5,.v 6] (.m (.a (.v 0) 82) 91 [.v 3]),.xD (.bo false [.mc .FT (.v 4) (.v 2),.mc .Eq (.b .GZ (.s (.v 1) (.v 5)) (.v 6)) (.c (.bn 0))]) [.rt (.v 3)] [],.as (.v 3) (.b .s0 (.v 3) (.c (.bn 1)))] n
  [.bs 16 Z.g,.bs 22 k,.bn 12,.bn (13+i:a5),x,y,z] d (.rt (.bn (13+nb:a5))) [.bs 16 Z.g,.bs 22 k,.bn 12,.bn (13+nb:a5),c,e,f] d:=by
 intro g
 induction g with
 |zero=>
  intro i x y z a;obtain rfl:i=nb:=a;exact Ez _ _ _ _ (.stop (zJ X b) (FN X h hn) (λz=>bf Fl.b4 z rfl))
 |Fy j l=>
  intro i x y z a;haveI lt:=a▸a5.wO (a5.succ_pos j);refine rK (l (i:=i+1) (x:=.bn 12) (y:=.bn (sY i)) (z:=.bn (ky i)) (by refine ab (a.symm) ?_;rw[a5.t0,a5.tz 1])) λn c e f w=>?_;exact Ez _ _ _ _ (.go (zJ X (a5.uo (a5.KB lt 13) b)) (IJ X h hn lt) w)
theorem uM(X:Fix d Z)(h:d.ed 22 k=ap (.aB (bm nb)))(hn:nb<=7)(a:13+nb<Z.nb):CA true 2 94 [.bs 16 Z.g,.bs 22 k,.bn 12,.bn 13] d (.ok (.bn (13+nb:a5)) d):=by refine rK (FL X h hn a (x:=.i1) (y:=.i1) (z:=.i1) (a5.pt _)) λn b c e w=>?_;apply rt gO rfl rfl;fail"5";apply SS.Dz;fail"$"
end
theorem bQ(ns:am a5)(n:a5):(aY ns n).ah<=ns.ah+1:=by
 unfold aY;cases ns.b6 n with
 |true=>exact a5.IO _
 |false=>exact a5.mZ am.ep
section
variable{lp:ct}{d U:H}{Z:Mt}{n k a i nb:a5}{o:am cy}{ns:am a5}{D:Oc}{P:Prop}
theorem tU(O:Op d Z D ns 1)(f:ns.ah<=5)(hb:D 12=bm nb)(hn:nb<=7)(c:13+nb<Z.nb)(l:∀m,CA true 6 93 [.bs 16 Z.g] d (.ok (.bn (13+nb:a5)) m)->Op m Z (wr (wr D 12 (bm (nb+1))) (13+nb) zb) (aY (aY ns 12) (13+nb)) 1->Fr gI d m->P):P:=by
 haveI w:=O.ob;haveI x:=O.s;haveI y:=O.c;haveI c1:=i9 (lp:=true) O.x (i:=0) av;have b:nb<=18:=a5.bb hn av;have o:a5.ble 10 (13+nb)=true:=a5.ov (a5.bb av (a5.f0 13 nb));haveI z:=vW nb nb b;haveI q1:sY nb<2^62:=a5.uo (md nb b) av;haveI q2:sY nb<(bm nb).ah:=md nb b;haveI A:(bm nb).ah<=aQ:=by show(48:a5)<=1000000;decide
 haveI p0:(0:b0)<=((bt nb nb).fo:b0):=b0.dv _;haveI p1:(0:b0)<=((ky nb:a5):b0):=b0.dv _;haveI p2:(0:b0)<=b0.kP (((bt nb nb).fo:b0).fo |||((ky nb:a5):b0).fo):=b0.dv _;haveI B:=Ji nb hn;haveI C:decide (((13+nb:a5):b0)<Z.nb)=true:=hq (b0.hB.ow c);have E:=O.x.kz;haveI F:decide ((13:b0)<Z.nb)=true:=hq (b0.hB.ow (show 13<Z.nb by omega));refine iM O (n:=12) rfl (.u0 av) λk p m1 k1 a b1 g q=>?_;rw[hb]at g;haveI G:=uM a.x g hn c;haveI H:=i9 (lp:=true) a.x b;haveI I:=a.ob;haveI J:=a.s;haveI h:=a.Hv (Gk nb hn) rfl;refine yK h rfl (a5.zu f) λK k2 e r=>?_;haveI L:=h.j;haveI M:=e.ob;haveI N:=e.c;refine iL e λQ k3 j s=>?_;haveI R:=j.ob;refine BQ j (a5.bb (bQ ns 12) (a5.ic f)) o (.wl c) λt S u v=>l t ?_ u (((q.trans (.fC rfl .hJ)).trans r).trans (s.trans v));apply rt fw rfl rfl;fail"%9E&$'$'5";apply SS.Dz;apply jw.Hy;fail">(E&$'$'?$%9V<&$'$''*$''";exact bD.KS (i:=0) rfl av;fail"%9<&$'$''*$'%9P$')&$')()(,*$'%9";apply EX.Gw;apply EX.mc;fail"(E&$'$'?$";apply EX.bG;fail"V<&$'$''*$''";exact bD.KS (i:=0) rfl av;fail"'D%RG('%po<&$'$''*$'U='s";exact fL.KS (i:=1) av av av;fail"'NKNKk%TAV&$''";apply bD.aB;fail"$$$'";apply au.lor;fail"$$^&$'(";apply gB.aB;fail"$$$$$%2<&$'$''*$'+%2<&$'$''*$'5RG('%27$''*$'5L"
end
def DD(f:a5->cy):a5->a5->am cy
 |_,0=> []
 |s,n+1=>f s::DD f (s+1) n
def gG(i:a5):a5:=Fe (a5.Ly i 2) (13+i) (14+i)
def pX(i c:a5):a5:=Fe (a5.Ly i c) (13+i) 0
def A_(c:a5):a5:=Fe (a5.Ly c 3) c (c+1)
def wF:a5->am cy
 |0=>zb
 |k+1=>w4 (wF k) (4*k) (16+k)
def nv(k j:a5):a5:=Fe (a5.Ly j k) (16+j) 0
structure Ew(D:Oc)(c:a5)(F:a5->cy):Prop where
 bit:D 12=bm (A_ c)
 nm:3<=c->D 15=wF (c - 2)
 b:∀i,i<c->D (gG i)=DD F (48*i) 48
 z:∀n,48*c<=n->F n=0
 le:c<=7
 row:∃kd ln sz a b e,D 10=Ca kd ln sz a b e
structure FW(d:H)(Z:Mt)(D:Oc)(ns:am a5)(a q j:a5)(hh:b0)(kd ln sz c:a5)(F:a5->cy):Prop where
 O:Op d Z D ns a
 N:dO d Z.g 1 q hh kd ln sz (pX 0 c) (pX 1 c) (pX 2 c) j
 B:Ew D c F
theorem eP{f:a5->cy}:∀{n s:a5},(DD f s n).ah=n:=by
 intro a
 induction a with
 |zero=>
  intro Z;fail"c"
 |Fy n b=>
  intro s;exact b5 a5.Fy b
theorem vy:∀{k:a5},(wF k).ah=48:=by
 intro a
 induction a with
 |zero=>rfl
 |Fy k b=>exact iE b
theorem DJ:∀k,k<=5->∀j,j<=k->(wF k)[4*j]?=ap (Cl (nv k j) 0)/\(wF k)[4*j+1]?=ap (Cl (nv k j) 1)/\(wF k)[4*j+2]?=ap (Cl (nv k j) 2)/\(wF k)[4*j+3]?=ap (Cl (nv k j) 3):=by decide+kernel
theorem nA{f:a5->cy}:∀{n s:a5},(∀m,s<=m->f m=0)->DD f s n=am.f7 n 0:=by
 intro a
 induction a with
 |zero=>
  intro Z Z;fail"c"
 |Fy n b=>
  intro s h;show f s::_=_;rw[h s (a5.i3 _),b λm z=>h m (a5.IN z)];rfl
theorem r_{i c:a5}(h:i<c):pX i c=13+i:=by unfold pX;exact ab (a5.blt_eq.ow h) rfl
theorem lD{ns:am a5}{n:a5}(h:n∈ns):aY ns n=ns:=by unfold aY;rw[am.fA.ow h];rfl
theorem gM{ns:am a5}{n:a5}:n∈aY ns n:=by
 unfold aY;cases q:ns.b6 n with
 |true=>exact am.fA.mp q
 |false=>exact am.xz _ (.sk _)
theorem lN{ns:am a5}{n m:a5}(h:m∈ns):m∈aY ns n:=by
 unfold aY;cases ns.b6 n with
 |true=>exact h
 |false=>exact am.zi _ h
section
variable{lp:ct}{d U:H}{Z:Mt}{n k a i j q kd ln sz c:a5}{hh:b0}{o:am cy}{ns:am a5}{D:Oc}{F:a5->cy}{mk:ct}{P:Prop}
theorem BP(O:Op d Z D ns a)(hb:D 15=wF k)(g:k<=5)(e:j<k)(h:∀m,CA true 4 98 [.bs 16 Z.g,.bn 15,.bn j,.gg mk] d (.ok (.bn (16+j:a5)) m)->Op m Z D ns a->Fr gI d m->P):P:=by
 haveI s:=O.ob;haveI t:=O.c;refine iM O (n:=15) rfl (.u0 av) λu p m1 c1 c b1 f i=>?_;rw[hb]at f;haveI v:=c.ob;haveI w:=c.c;have b:=DJ k g j (a5.l6 e);have l:nv k j=16+j:=by unfold nv;rw[show a5.Ly j k=true from a5.ov e];rfl
 rw[l]at b;haveI x:=eZ (lp:=true) f b.1 b.2.1 b.2.2.1 b.2.2.2 (by omega) (by omega);haveI y:(((16+j:a5):b0)==0)=false:=eF (by omega);haveI z:aP 4:=jA (by decide) (by decide);refine iL c λo A q r=>h o ?_ q (i.trans r);apply rt cY rfl rfl;fail"%9<&$'$''*$'%9F)&$')1Z$,*$'%2<&$'$''*$'%4Ht8D$'+5L"
theorem se(O:Op d Z D ns 1)(q:ns.ah<=5)(r:(aY (aY ns 12) (16+k)).ah<=6)(s:k<=4)(J:16+k<Z.nb)(hb:D 15=wF k)(t:D 12=bm (3+k))(u:∀m,CA true 7 98 [.bs 16 Z.g,.bn 15,.bn k,.gg true] d (.ok (.bn (16+k:a5)) m)->Op m Z (wr (wr (wr D 12 (bm (4+k))) (16+k) zb) 15 (wF (k+1))) (aY (aY (aY ns 12) (16+k)) 15) 1->Fr gI d m->P):P:=by
 haveI K:=O.ob;haveI L:=O.c;refine iM O (n:=15) rfl (.u0 av) λM p m1 c1 c b1 e w=>?_;replace e:=hb▸e;haveI N:=c.ob;haveI Q:=c.c;have a:=DJ k (a5.zu s) k (a5.i3 _);have x:nv k k=0:=by unfold nv;rw[show a5.Ly k k=false from ct.sA.ow λz=>a5.q5 k (a5.ft z)];rfl
 rw[x]at a;haveI R:=eZ (lp:=true) (i:=4*k) (v:=0) e a.1 a.2.1 a.2.2.1 a.2.2.2 av (by omega);haveI S:aP 4:=jA (by decide) (by decide);refine iL c λT U g y=>?_;haveI V:=g.ob;have A:13+(3+k)=16+k:=by omega
 refine tU (nb:=3+k) g q t (by omega) (by omega) λW B b C=>?_;rw[A]at B b;rw[show 3+k+1=4+k by omega]at b;haveI X:=b.ob;haveI Y:=b.c;refine iM b (n:=15) rfl (.u0 av) λk2 p2 m4 c5 h b3 j E=>?_;rw[show wr (wr D 12 (bm (4+k))) (16+k) zb 15=wF k from(aJ (by omega)).trans ((aJ (by decide)).trans hb)]at j;haveI c6:=pw (lp:=true) (i:=4*k) (v:=16+k) j vy (by omega);haveI l:=h.fC (o:=wF (k+1)) vy;haveI g8:=l.j;haveI g9:=h.ob;refine yK l rfl r λm6 c7 f F=>?_;haveI G1:=f.ob;haveI NB:=f.c;refine iL f λG c8 H I=>u G ?_ H (((w.trans y).trans (C.trans E)).trans ((Fr.fC rfl .hJ).trans (F.trans I)));apply rt cY rfl rfl;fail"%9<&$'$''*$'%9F)&$')1Z$,*$'%2<&$'$''*$'%RH:8D':G('M'%97$''*$'%9<&$'$''*$'%2F)&$')1Z$)(,*$'%2<&$'$''*$'%2<&$'$''*$'+5L"
end
def yw(c:a5):am V:=[iV (pX 0 c),iV (pX 1 c),iV (pX 2 c)]
structure BO(d U:H)(Z:Mt)(D D':Oc)(ns dH:am a5)(q j:a5)(hh:b0)(kd ln sz c c' i:a5)(F:a5->cy):Prop where
 W:FW U Z D' dH 1 q j hh kd ln sz c' F
 fr:Fr (29::gI) d U
 lt:i<c'
 le:c<=c'
 top:c'<=c\/c'<=i+1
 ER:(aY dH (gG i)).ah<=ns.ah+3
 one:i<c->dH=ns
 DG:D' 11=D 11
theorem ou{i:a5}(h:i<2):gG i=13+i:=by unfold gG;rw[show a5.Ly i 2=true from a5.ov h];rfl
theorem rn{i:a5}(h:2<=i):gG i=14+i:=by unfold gG;rw[show a5.Ly i 2=false from ct.sA.ow λz=>a5.to.ow h (a5.ft z)];rfl
theorem rm(i:a5):(i<2/\gG i=13+i)\/(2<=i/\gG i=14+i):=(a5.lt_or_ge i 2).DO (λh=>⟨h,ou h⟩) λh=>⟨h,rn h⟩
theorem nN{c:a5}(h:c<3):A_ c=c:=by unfold A_;rw[show a5.Ly c 3=true from a5.ov h];rfl
theorem qt{c:a5}(h:3<=c):A_ c=c+1:=by unfold A_;rw[show a5.Ly c 3=false from ct.sA.ow λz=>a5.to.ow h (a5.ft z)];rfl
theorem ne5{c:a5}(h:c<2):(yw c)[c]?=ap (iV 0):=HM h rfl rfl
theorem Oz{c:a5}(h:c<2):(yw c).fC c (iV (13+c))=yw (c+1):=HM h rfl rfl
theorem AM{i j:a5}(h:i≠j):gG i≠gG j:=by rcases rm i with⟨a,e⟩ |⟨a,e⟩<;>rcases rm j with⟨b,f⟩ |⟨b,f⟩<;>rw[e,f] <;>omega
theorem ma(i:a5):12≠gG i/\15≠gG i/\10≠gG i/\11≠gG i/\a5.ble 10 (gG i)=true:=by
 have:12<gG i/\15≠gG i:=by rcases rm i with⟨a,e⟩ |⟨a,e⟩<;>rw[e] <;>omega
 exact⟨by omega,by omega,by omega,by omega,a5.ov (by omega)⟩
section
variable{lp:ct}{d U:H}{Z:Mt}{n k a i j q kd ln sz c:a5}{hh:b0}{o:am cy}{ns:am a5}{D:Oc}{F:a5->cy}{mk:ct}{P:Prop}
theorem ql{i c:a5}(h:i<c)(h2:i<3):(yw c)[i]?=ap (iV (13+i)):=by
 revert h
 exact Lm h2 (λh=>b5 (λn=>ap (iV n)) (r_ h)) (λh=>b5 (λn=>ap (iV n)) (r_ h)) λh=>b5 (λn=>ap (iV n)) (r_ h)
theorem AK(W:FW d Z D ns a q j hh kd ln sz c F)(hi:i<c)(b:∀m,CA true 5 97 [.bs 16 Z.g,.bs 15 q,.bn i,.gg mk] d (.ok (.bn (gG i)) m)->Op m Z D ns a->Fr gI d m->P):P:=by
 haveI t:=W.O.ob;haveI e:=W.O.s;haveI u:=W.N.K1;haveI v:d.ed 29 j=ap (.dG (yw c)):=W.N.pl;have w:=W.B.le;by_cases h2:i<2
 ·haveI f:=ql hi (a5.IP h2);haveI x:i<2^62:=a5.uo h2 av;haveI g:((13+i:a5):b0)≠0:=λh=>kk (b0.kP.zv h) (by rw[a5.tz];exact a5.succ_ne_zero _);haveI l:=hq (b0.hB.ow h2);rw[ou h2]at b;refine b d ?_ W.O .hJ;apply CA.up (n:=1);fail"x%9E&$'$'5R8?$%4HtBV&$''S$$$'D";exact eF g;fail"'+5CV&$''S$$$";decide
 ·have h2:=a5.Fa h2;haveI f:=ql (a5.fp h2 hi) av;haveI l:decide ((i:b0)<2)=false:=ia (by omega);haveI y:decide ((14:b0)<=i)=false:=ia (by omega);have o:V.bn ((i:b0) - 2)=.bn ((i - 2:a5):b0):=b5 V.bn (by omega);haveI c1:=d8 (lp:=true) e;rw[rn h2]at b;refine BP (mk:=mk) (k:=c - 2) (j:=i - 2) W.O (W.B.nm (by omega)) (by omega) (by omega) λm p r s=>b m ?_ r s;rw[show 16+(i - 2)=14+i by omega]at p;fail"x%9E&$'$'%48?$+%4>(<&$'$''*$'n$+%4BV&$''S$$";decide;fail"'D'+5CP$')V&$''S$$";decide;fail")O1W";exact o;fail")(,*$'"
theorem Dc(W:FW d Z D ns 1 q j hh kd ln sz c F)(k:ns.ah<=3)(a:c<2)(o:∀m D' p,CA true 8 97 [.bs 16 Z.g,.bs 15 q,.bn c,.gg true] d (.ok (.bn (gG c)) m)->BO d m Z D D' ns p q j hh kd ln sz c (c+1) c F->P):P:=by
 have t:=W.O.x.kz;haveI u:=W.O.ob;haveI v:=W.O.s;haveI w:=W.N.K1;haveI x:=W.N.pl;haveI A:c<2^62:=a5.uo a av;haveI B:=hq (b0.hB.ow a);haveI b:=ou a;haveI C:=ne5 a;haveI r:c<(yw c).ah:=a5.uo a av;haveI E:((yw c).fC c (iV (13+c)))[c]?=ap (iV (13+c)):=am.Im r;refine tU W.O (a5.bb k av) ((nN (a5.IP a))▸W.B.bit) (by omega) (by omega) λm1 c1 s g=>?_;haveI e:=W.N.fr g rfl;haveI G:=e.K1;haveI H:m1.ed 29 j=ap (.dG (yw c)):=e.pl;have f:∀n,n≠12->n≠13+c->wr (wr D 12 (bm (c+1))) (13+c) zb n=D n:=λn h1 h2=>(aJ h2).trans (aJ h1);refine o (m1.fC 29 j (.dG ((yw c).fC c (iV (13+c))))) _ _ ?_ ⟨⟨s.fr (S:=[29]) (.fC rfl .hJ) rfl,⟨e.K1,mx.trans (b5 (λl=>ap (O.dG l)) (Oz a))⟩,?_,λh=>kk h (by omega),λi hi=>?_,λn h=>W.B.z n (a5.bb (a5.qy 48 (a5.IO c)) h),by omega,(f 10 (by decide) (by omega)).symm▸W.B.row⟩,(g.hA rfl).trans (.fC rfl .hJ),a5.wS _,a5.IO _,.wl (a5.i3 _),?_,λh=>kk h (a5.q5 _),f 11 (by decide) (by omega)⟩
 ·rw[b];apply CA.up (n:=7);fail"x%9E&$'$'5R8?$%RH:BV&$''S$$$'D':G('M'%T7$''*$'^&$'(";apply gB.dG;fail"$$$+5CV&$''S.$$";decide
 ·rw[nN (by omega),aJ (by omega)];exact aW
 ·by_cases z:i=c
  ·refine ab z (ab b (ab aW ?_));exact(nA W.B.z).symm
  ·have lt:i<c:=by omega
   have y:=W.B.b i lt;rw[ou (a5.uo lt a)]at y ⊢;exact(f _ (by omega) (by omega)).trans y
 ·refine ab (b) ?_;rw[lD gM];exact a5.bb (bQ _ _) (a5.ic (a5.zu (bQ _ _)))
theorem C_(W:FW d Z D ns 1 q j hh kd ln sz 2 F)(r:ns.ah<=3)(s:∀m D' t,CA true 8 97 [.bs 16 Z.g,.bs 15 q,.bn (2:a5),.gg true] d (.ok (.bn (gG 2)) m)->BO d m Z D D' ns t q j hh kd ln sz 2 3 2 F->P):P:=by
 have C:=W.O.x.kz;haveI E:=W.O.ob;haveI u:=W.O.s;haveI G:=W.N.K1;haveI H:d.ed 29 j=ap (.dG [iV 13,iV 14,iV 0]):=W.N.pl;haveI I:=d8 (lp:=true) u;refine tU (nb:=2) W.O (a5.bb r av) W.B.bit av (by omega) λm1 c1 b e=>?_
 change Op m1 Z (wr (wr D 12 (bm 3)) 15 zb) (aY (aY ns 12) 15) 1 at b
 haveI c:=W.N.fr e rfl;haveI J:=c.K1;haveI K:m1.ed 29 j=ap (.dG [iV 13,iV 14,iV 0]):=c.pl;haveI L:=b.ob;haveI v:=b.fr (S:=[29]) (U:=m1.fC 29 j (.dG [iV 13,iV 14,iV 15])) (.fC rfl .hJ) rfl;have w:(aY (aY ns 12) 15).ah<=ns.ah+2:=a5.bb (bQ _ _) (a5.ic (bQ _ _));have f:aY (aY (aY ns 12) 15) 12=aY (aY ns 12) 15:=lD (lN gM);have x:aY (aY (aY (aY ns 12) 15) 16) 15=aY (aY (aY ns 12) 15) 16:=lD (lN gM);refine se (k:=0) v (by omega) (by rw[f];exact a5.bb (bQ _ _) (by omega)) av (by omega) aW ((aJ (by decide)).trans aW) λg M a l=>?_;rw[f]at a
 change Op g Z _ (aY (aY (aY (aY ns 12) 15) 16) 15) 1 at a
 rw[x]at a;haveI A:dO (m1.fC 29 j (.dG [iV 13,iV 14,iV 15])) Z.g 1 q hh kd ln sz 13 14 15 j:=⟨c.K1,mx⟩;refine s g _ _ ?_ ⟨⟨a,A.fr l rfl,?_,λY=>aW,λi hi=>?_,λn h=>W.B.z n (a5.bb av h),by decide,W.B.row⟩,((e.hA rfl).trans (.fC rfl .hJ)).trans (l.hA rfl),by decide,by decide,.wl (a5.i3 _),?_,λh=>kk h (a5.q5 _),(aJ (by decide)).trans ((aJ (by decide)).trans ((aJ (by decide)).trans ((aJ (by decide)).trans (aJ (by decide)))))⟩
 ·fail"x%9E&$'$'%48?'+%4>(<&$'$''*$'n'+%RBV&$''S$'";decide;fail"'D'%4fG('+%T7$''*$'^&$'(";apply gB.dG;fail"$";decide;decide;fail"+5CP$')V&$''S.'";decide;fail")1W)(,*$'"
 ·exact(aJ (by decide)).trans ((aJ (by decide)).trans aW)
 ·by_cases z:i<2
  ·have y:=W.B.b i z;rw[ou z]at y ⊢;haveI o:13+i≠12:=by omega
   haveI p:13+i≠15:=by omega
   haveI B:13+i≠16:=by omega
   exact(aJ p).trans ((aJ B).trans ((aJ o).trans ((aJ p).trans ((aJ o).trans y))))
  ·obtain rfl:i=2:=a5.le_antisymm (a5.F6 hi) (a5.Fa z);exact(aJ (by decide)).trans (aW.trans (nA W.B.z).symm)
 ·show(aY _ 16).ah<=_;rw[lD gM];exact a5.bb (bQ _ _) (a5.ic w)
theorem C9(W:FW d Z D ns 1 q j hh kd ln sz (k+2) F)(x:ns.ah<=3)(h1:1<=k)(h4:k<=4)(p:16+k<Z.nb)(e:∀m D' r,CA true 8 97 [.bs 16 Z.g,.bs 15 q,.bn (k+2:a5),.gg true] d (.ok (.bn (gG (k+2))) m)->BO d m Z D D' ns r q j hh kd ln sz (k+2) (k+3) (k+2) F->P):P:=by
 haveI A:=W.O.ob;haveI s:=W.O.s;haveI B:=W.N.K1;haveI C:d.ed 29 j=ap (.dG (yw (k+2))):=W.N.pl;haveI E:=d8 (lp:=true) s;haveI G:(yw (k+2))[2]?=ap (iV 15):=ql (by omega) av;haveI H:decide (((k+2:a5):b0)<2)=false:=ia (by omega);haveI I:decide ((14:b0)<=((k+2:a5):b0))=false:=ia (by omega);have t:V.bn (((k+2:a5):b0) - 2)=.bn (k:b0):=b5 V.bn (by omega);have a:gG (k+2)=16+k:=by rw[rn (by omega)];omega
 have en:A_ (k+2)=3+k:=by rw[qt (by omega)];omega
 have u:(aY (aY ns 12) (16+k)).ah<=ns.ah+2:=a5.bb (bQ _ _) (a5.ic (bQ _ _));have f:=W.B.bit;rw[en]at f;rw[a]at e;refine se W.O (by omega) (by omega) h4 p (W.B.nm (by omega)) f λv J w g=>?_;have b:∀n,n≠12->n≠16+k->n≠15->wr (wr (wr D 12 (bm (4+k))) (16+k) zb) 15 (wF (k+1)) n=D n:=λn h1 h2 h3=>(aJ h3).trans ((aJ h2).trans (aJ h1));have c:∀i,i<3->pX i (k+3)=pX i (k+2):=λi h=>by rw[r_ (by omega),r_ (by omega)]
 refine e v _ _ ?_ ⟨⟨w,by rw[c 0 av,c 1 av,c 2 av];exact W.N.fr g rfl,?_,λY=>aW,λi hi=>?_,λn h=>W.B.z n (a5.bb (a5.qy 48 (a5.IO _)) h),by omega,(b 10 (by decide) (by omega) (by decide)).symm▸W.B.row⟩,g.hA rfl,by omega,by omega,.wl (a5.i3 _),?_,λh=>kk h (a5.q5 _),b 11 (by decide) (by omega) (by decide)⟩
 ·fail"x%9E&$'$'%48?$+%4>(<&$'$''*$'n$+%4BV&$''S$$";decide;fail"'D'+5CP$')V&$''S$$";decide;fail")O1W";exact t;fail")(,*$'"
 ·rw[qt (by omega),show k+3+1=4+k by omega];exact(aJ (by decide)).trans ((aJ (by omega)).trans aW)
 ·by_cases z:i=k+2
  ·subst z;rw[a];exact(aJ (by omega)).trans (aW.trans (nA W.B.z).symm)
  ·have y:=W.B.b i (by omega);have l:=ma i;have o:=AM z;rw[a]at o;exact(b _ l.1.symm o l.2.1.symm).trans y
 ·show(aY _ (gG (k+2))).ah<=_;rw[a,lD (lN gM)];exact a5.bb (bQ _ _) (a5.ic u)
theorem BR(W:FW d Z D ns 1 q j hh kd ln sz c F)(e:ns.ah<=3)(hi:i<=c)(h2:i<7)(g:gG i<Z.nb)(b:∀m D' a l,CA true 8 97 [.bs 16 Z.g,.bs 15 q,.bn i,.gg true] d (.ok (.bn (gG i)) m)->BO d m Z D D' ns a q j hh kd ln sz c l i F->P):P:=by
 by_cases h:i<c
 ·exact AK W h λm c1 n f=>b m D ns c (c1.up (by decide)) ⟨⟨n,W.N.fr f rfl,W.B⟩,f.hA rfl,h,a5.i3 _,.u0 (a5.i3 _),a5.bb (bQ _ _) (a5.ic (a5.f0 _ 2)),λY=>rfl,rfl⟩
 ·obtain rfl:i=c:=a5.le_antisymm hi (a5.Fa h);by_cases z:i<2
  ·exact Dc W e z λm D' a=>b m D' a _
  ·by_cases o:i=2
   ·subst o;exact C_ W e λm D' a=>b m D' a _
   ·obtain⟨k,rfl⟩:∃k,i=k+2:=⟨i - 2,by omega⟩;rw[rn (by omega)]at g;exact C9 W e (by omega) (by omega) (by omega) λm D' a=>b m D' a _
end
def ins(f:a5->cy)(s:a5)(l:am cy):a5->cy:=λi=>if s<=i then(l[i - s]?).ww (f i)else f i
section
variable{f g:a5->cy}
theorem jh:∀{n s:a5},(∀i,s<=i->i<s+n->f i=g i)->DD f s n=DD g s n:=by
 intro c
 induction c with
 |zero=>
  intro Z Z;fail"c"
 |Fy n d=>
  intro s h;rw[DD,DD,h s (a5.i3 _) (a5.wO (a5.succ_pos n))];exact ab (d λi a b=>h i (a5.IN a) (by rw[a5.succ_add]at b;exact b)) rfl
theorem kF:∀{m n s:a5},DD f s (m+n)=DD f s m++DD f (s+m) n:=by
 intro a
 induction a with
 |zero=>
  intro n s;rw[a5.pt];rfl
 |Fy m b=>
  intro n s;rw[a5.succ_add,DD,b,DD,a5.succ_add_eq_add_succ];rfl
theorem rP{n s m:a5}(h:m<=n):(DD f s n).m0 m=DD f s m:=by refine aN (a5.le.dest h) λk a=>?_;clear h;subst a;exact ab kF (ab (am.take_left' eP) rfl)
theorem rQ{n s m:a5}(h:m<=n):(DD f s n).zt m=DD f (s+m) (n - m):=by refine aN (a5.le.dest h) λk a=>?_;clear h;subst a;rw[kF,am.drop_left' eP,a5.s7]
theorem nR{s i:a5}{l:am cy}(h:i<s):ins f s l i=f i:=dx (a5.Km.ow h)
theorem nS{s i:a5}{l:am cy}(h:s+l.ah<=i):ins f s l i=f i:=by
 unfold ins
 split
 ·rw[am.getElem?_eq_none (a5.le_sub_of_add_le (by rw[a5.tz];exact h))];rfl
 ·rfl
theorem vI:∀{l:am cy} {f:a5->cy} {s:a5},DD (ins f s l) s l.ah=l:=by
 intro b
 induction b with
 |iv=>
  intro Z Z;fail"c"
 |d2 x l c=>
  intro f s;haveI e:DD (ins f s (x::l)) (s+1) l.ah=l:=(jh λi a Z=>by
   refine aN (a5.le.dest a) λk d=>?_;subst d;delta ins;apply((et (a5.IN a))).trans;rw[et a,a5.s7,a5.t0,a5.s7,a5.tz 1 k];rfl).trans (c (f:=f) (s:=s+1))
  show ins f s (x::l) s::DD (ins f s (x::l)) (s+1) l.ah=_;refine ab e ?_;delta ins;refine ab ((et (a5.i3 _))) ?_;rw[a5.sub_self];rfl
theorem Bq{a n s:a5}{o:am cy}(h:s+o.ah<=n):(DD f a n).m0 s++o++(DD f a n).zt (s+o.ah)=DD (ins f (a+s) o) a n:=by refine aN (a5.le.dest h) λk b=>?_;subst b;rw[rP (a5.bb (a5.f0 _ _) h),rQ h,a5.s7,kF (m:=s+o.ah),kF (m:=s),vI];refine ab (jh (f:=ins f (a+s) o) (g:=f) (n:=s) λi Z h=>nR h) ?_;exact ab (jh (f:=ins f (a+s) o) (g:=f) (n:=k) λi h Z=>nS (by rw[a5.t0];exact h)) rfl
theorem vJ{s:a5}{l m:am cy}:ins (ins f s l) (s+l.ah) m=ins f s (l++m):=by
 funext i
 by_cases h:s+l.ah<=i
 ·have h2:s<=i:=a5.bb (a5.f0 _ _) h;rw[ins,et h,nS h,ins,et h2,am.getElem?_append_right (a5.le_sub_of_add_le (by rw[a5.tz];exact h)),a5.sub_sub]
 ·refine ab (nR (a5.Km.mp h)) ?_;by_cases h2:s<=i
  ·rw[ins,et h2,ins,et h2];exact ab (am.getElem?_append_left (a5.sub_lt_left_of_lt_add h2 (a5.Km.mp h))) rfl
  ·apply((nR (a5.Km.mp h2))).trans;exact ab (nR (a5.Km.mp h2)) rfl
theorem CG{l:am cy}{n:a5}(h:l.ah<=n):Iu l 0 n=l:=by unfold Iu;rw[am.na h];rfl
end
theorem Ew.ins{D:Oc}{c i s:a5}{F:a5->cy}{o:am cy}(B:Ew D c F)(hi:i<c)(h:s+o.ah<=48):Ew (wr D (gG i) (DD (K.ins F (48*i+s) o) (48*i) 48)) c (K.ins F (48*i+s) o):=by
 have e:=B.le;haveI d:=ma i;have up:48*i+s+o.ah<=48*(i+1):=by rw[a5.t0];exact a5.kQ h _
 refine⟨(aJ d.1).trans B.bit,λz=>(aJ d.2.1).trans (B.nm z),λk f=>?_,λn hn=>(nS (a5.bb up (a5.bb (a5.qy 48 hi) hn))).trans (B.z n hn),e,(aJ d.2.2.1).symm▸B.row⟩;clear d h hi;by_cases z:k=i
 ·clear e f up B c;subst z;exact aW
 ·apply((aJ (AM z))).trans;refine ab (B.b k f) ?_;refine jh λn a b=>?_;clear e f B c;rcases a5.lt_or_gt_of_ne z with y |y
  ·exact(nR (a5.ew b (a5.bb (a5.qy 48 y) (a5.f0 _ s)))).symm
  ·exact(nS (a5.bb up (a5.bb (a5.qy 48 y) a))).symm
section
variable{lp:ct}{d U:H}{Z:Mt}{n k a i j q kd ln sz c py dn p s:a5}{hh:b0}{o:am cy}{ns:am a5}{D:Oc}{F:a5->cy}{P:Prop}
theorem Fh{x y:b0}{p:a5}(h:(if y<x then y else x)=p):V.bn (if y<x then y else x)=.bn p:=b5 V.bn h
theorem Di(ns:am a5)(n:a5):ns.ah<=(aY ns n).ah:=by
 unfold aY;cases ns.b6 n with
 |true=>exact a5.i3 _
 |false=>exact ab (am.ep) (a5.f0 _ _)
theorem tV(W:FW d Z D ns 1 q j hh kd ln sz c F)(v:ns.ah<=3)(h:py=48*i+s)(hs:s<48)(hi:i<=c)(h3:i<7)(w:gG i<Z.nb)(hd:dn<=o.ah)(y:o.ah<=300)(A:(if(o.ah:b0) - dn<48 - (s:b0)then(o.ah:b0) - dn else 48 - (s:b0))=(p:a5))(p1:dn+p<=o.ah)(p2:s+p<=48)
  (B:∀m D' l e,CA true 9 101 [.bs 16 Z.g,.bs 15 q,.bn py,.d3 o,.bn dn] d (.ok (.bn p) m)->FW m Z D' l 1 q j hh kd ln sz e (ins F py (Iu o dn (dn+p)))->Fr (29::gI) d m->i<e->c<=e->e<=c\/e<=i+1->D' 11=D 11->l.ah<=ns.ah+3->(i<c->l.ah<=ns.ah+1)->P):P:=by
 haveI M:=W.O.ob;haveI N:=W.O.s;haveI O:V.bn ((py:b0) % 48)=.bn s:=b5 V.bn (show((py % 48:a5):b0)=s by refine ab (h) ?_;rw[a5.mul_add_mod];exact ab (a5.Ik hs) rfl);haveI Q:V.bn ((py:b0)/48)=.bn i:=b5 V.bn (show((py/48:a5):b0)=i by refine ab (h) ?_;rw[a5.mul_add_div av,a5.div_eq_of_lt hs];rfl);haveI R:=Fh A;refine BR W v hi h3 w λm1 D1 C c1 k1 b=>?_;haveI S:=b.W.B.le;haveI T:=b.W.O.ob;haveI U:=b.W.O.s;haveI X:=b.W.O.c;haveI r:=ma i;haveI nl:C.ah<=6:=a5.bb (Di _ _) (a5.bb b.ER (a5.A9 v 3));refine iM b.W.O r.2.2.2.2 (.wl w) λk p1 Y k2 t b1 E G=>?_;rw[b.W.B.b i b.lt]at E;have g:(Iu o dn (dn+p)).ah=p:=by apply(am.Kc).trans;rw[am.w1,a5.ux ‹_›,a5.s7]
 haveI u1:s<=s+p:=a5.f0 _ _;haveI u2:s+p<=(DD F (48*i) 48).ah:=by exact ab (eP) (p2)
 haveI u3:(Iu o dn (dn+p)).ah=s+p - s:=by apply(g).trans;rw[a5.s7]
 haveI u4:(DD F (48*i) 48).ah<=aQ:=by refine ab eP ?_;decide
 haveI u5:o.ah<=aQ:=a5.bb y av;have H:(DD F (48*i) 48).m0 s++Iu o dn (dn+p)++(DD F (48*i) 48).zt (s+p)=DD (ins F (48*i+s) (Iu o dn (dn+p))) (48*i) 48:=by
  haveI:=Bq (f:=F) (a:=48*i) (n:=48) (s:=s) (o:=Iu o dn (dn+p)) (by rw[g];exact p2)
  rwa [g]at this
 haveI x:=t.Hv H eP;haveI g6:=x.j;haveI g7:=t.ob;haveI g8:=t.s;refine yK x r.2.2.2.2 nl λm3 k3 u I=>?_;haveI g9:=u.ob;haveI G1:=u.c;refine iL u λJ k4 K L=>?_;haveI fr:=(G.trans (.fC rfl .hJ)).trans (I.trans L);refine B J _ _ c1 ?_ ⟨K,b.W.N.fr fr rfl,h▸b.W.B.ins b.lt (by rw[g];exact p2)⟩ (b.fr.trans (fr.hA rfl)) b.lt b.le b.top ((aJ r.2.2.2.1).trans b.DG) b.ER λz=>(b.one z)▸bQ _ _;apply rt fv rfl rfl;fail"%";apply SS.xZ;fail"%9P$')()O;(E&$'$'h";decide;decide;fail"$)";exact xb;fail",*$'+%TO;(E&$'$'v";decide;fail"$K%TOJ)AE&$'$''W)AIg$'W,w$K%9<&$'$''*$'%To(U('U16'";apply fL.d3;exact .wl rfl;exact .wl Gy;fail"$";apply TG.slice;fail"&$'U('U16'";apply pW.aB;fail"$";exact .wl rfl;exact .wl Gy;fail"$$$$%2<&$'$''*$'%2<&$'$''*$'5L"
end
section
variable{lp:ct}{d U:H}{Z:Mt}{n k a i j q kd ln sz c py dn p s:a5}{hh:b0}{o:am cy}{ns:am a5}{D:Oc}{F:a5->cy}{P:Prop}{x:V}
theorem CF{r t:a5}{F:a5->cy}(h:r+t=o.ah):ins (ins F py (Iu o 0 (0+r))) (py+r) (Iu o r (r+t))=ins F py o:=by
 haveI e:(Iu o 0 (0+r)).ah=r:=by rw[a5.pt];unfold Iu;exact ab am.drop_zero (ab am.w1 (ab (a5.ux (h▸a5.f0 _ _)) rfl))
 haveI:=vJ (f:=F) (s:=py) (l:=Iu o 0 (0+r)) (m:=Iu o r (r+t));rw[e]at this;refine ab this ?_
 congr 1
 unfold Iu;rw[a5.pt,h,am.H2,am.drop_zero,am.take_append_drop]
theorem Fi{l Q s p:a5}(h:Q+p=l)(h2:s+p<=48):(if(l:b0) - Q<48 - (s:b0)then(l:b0) - Q else 48 - (s:b0))=(p:a5):=by
 haveI e:(l:b0) - Q=p:=by rw[←h,b0.natCast_add,b0.tz,b0.ur]
 rw[e];by_cases q:(p:b0)<48 - (s:b0)
 ·exact et q
 ·exact(dx q).trans (b0.le_antisymm (b0.to.mp q) (b0.le_sub_left_of_add_le (b0.natCast_add s p▸b0.sp.ow h2)))
theorem HK{l Q s p:a5}(h:s+p=48)(h2:Q+p<=l):(if(l:b0) - Q<48 - (s:b0)then(l:b0) - Q else 48 - (s:b0))=(p:a5):=by
 haveI e:48 - (s:b0)=p:=by rw[show(48:b0)=((s+p:a5):b0)from b5 _ h.symm,b0.natCast_add,b0.tz,b0.ur]
 rw[e];exact dx (b0.to.ow (b0.le_sub_left_of_add_le (b0.natCast_add Q p▸b0.sp.ow h2)))
theorem Jd{py i s p c:a5}(h:py=48*i+s)(h2:s+p<=48)(lt:i<c):py+p<=48*c:=by rw[h,a5.t0];exact a5.bb (a5.kQ h2 _) (a5.qy 48 lt)
theorem lo1{py i s n:a5}(a:py=48*i+s)(b:0<n):48*i<py+n:=by omega
theorem KO{py i s n c:a5}(a:py=48*i+s)(b:0<n)(y:c<=i+1):48*c<py+n+48:=by omega
theorem top2{py i n r c c1 a:a5}(tp:c1<=c\/c1<=i+1)(b:a<=c1\/a<=i+1+1)(h:py+r=48*(i+1)+0)(rl:r<n):a<=c\/48*a<py+n+48:=by omega
theorem xU(O:Op d Z D ns 1)(a:ns.ah<=3)(b:o.ah<=100)(hd:dn<o.ah):ET true 10 [.bs 16 Z.g,.bs 15 q,.bn py,.d3 o,.bn dn,x] d (.bo true [.mc .Lt (.v 4) (.bi 0 [.v 3]),.mc .GtE (.m (.a (.v 0) 30) 99 []) (.g (.bn 4))]) (.ok true d):=by haveI c:=O.ob;haveI e:=O.j;haveI c1:=E9 (lp:=true) O;haveI f:o.ah<=aQ:=a5.bb b av;haveI g:=hq (b0.hB.ow hd);haveI h:decide ((4:b0)<=7 - ns.ah)=true:=hq (b0.le_sub_right_of_add_le (b0.sp.ow (a5.kQ a 4)));fail"H:>(Ig$?$:B<&$'$''*$''n$M"
theorem DA(a:o.ah<=100):ET true 10 [.bs 16 Z.g,.bs 15 q,.bn py,.d3 o,.bn o.ah,x] d (.bo true [.mc .Lt (.v 4) (.bi 0 [.v 3]),.mc .GtE (.m (.a (.v 0) 30) 99 []) (.g (.bn 4))]) (.ok false d):=by haveI b:o.ah<=aQ:=a5.bb a av;haveI c:decide ((o.ah:b0)<o.ah)=false:=ia (b0.q5 _);fail"Ht>(Ig$?$"
theorem EM(b:d.ed 16 Z.g=ap (jZ Z.g))(a:0<p)(c1:CA true 9 101 [.bs 16 Z.g,.bs 15 q,.bn (py+dn:a5),.d3 o,.bn dn] d (.ok (.bn p) U)):SB true 10 [.bs 16 Z.g,.bs 15 q,.bn py,.d3 o,.bn dn,x] d [.as (.v 5) (.m (.v 0) 100 [.v 1,.b .s0 (.v 2) (.v 4),.v 3,.v 4]),.xD (.mc .Eq (.v 5) (.c (.bn 0))) [.br] [],.as (.v 4) (.b .s0 (.v 4) (.v 5))] .nx [.bs 16 Z.g,.bs 15 q,.bn py,.d3 o,.bn (dn+p:a5),.bn p] U:=by haveI c:=ki.ow λh=>a5.FA a (b0.kP.zv h);fail"%9P$')()16)()(,*$'%48D$+%916+"
theorem EK(W:FW d Z D ns 1 q j hh kd ln sz c F)(hn:ns.ah<=1)(b:py=48*i+s)(hs:s<48)(u:py<=48*c)(g:0<o.ah)(v:o.ah<=48)(H:py+o.ah<=336)(w:∀i,48*i<py+o.ah->gG i<Z.nb)(h2:ns.ah=0\/s+o.ah<=48)
  (I:∀m D' k e n Q,jw true 10 (.bo true [.mc .Lt (.v 4) (.bi 0 [.v 3]),.mc .GtE (.m (.a (.v 0) 30) 99 []) (.g (.bn 4))]) [.as (.v 5) (.m (.v 0) 100 [.v 1,.b .s0 (.v 2) (.v 4),.v 3,.v 4]),.xD (.mc .Eq (.v 5) (.c (.bn 0))) [.br] [],.as (.v 4) (.b .s0 (.v 4) (.v 5))] n [.bs 16 Z.g,.bs 15 q,.bn py,.d3 o,.bn (0:a5),.i1] d .nx [.bs 16 Z.g,.bs 15 q,.bn py,.d3 o,.bn o.ah,Q] m->FW m Z D' k 1 q j hh kd ln sz e (ins F py o)->Fr (29::gI) d m->k.ah<=4->py+o.ah<=48*e->c<=e->e<=c\/48*e<py+o.ah+48->D' 11=D 11->P):P:=by
 have f:o.ah<=100:=a5.bb v av;have hi:i<=c:=a5.le_of_mul_le_mul_left (a5.bb (a5.f0 _ s) (lG b u)) av;have J:i<7:=a5.lt_of_mul_lt_mul_left (a5.ew (a5.wO g) (a5.bb (a5.A9 (a5.f0 (48*i) s) _) (b▸H)));by_cases z:s+o.ah<=48
 ·refine tV (p:=o.ah) W (a5.bb hn av) b hs hi J (w i (lo1 b g)) (a5.ri _) (a5.bb f av) (Fi (a5.pt _) z) (a5.mZ (a5.pt _)) z λm D' k e k1 l A lt B tp C K L=>?_;rw[CG (a5.mZ (a5.pt _).symm)]at l;haveI t:=EM (py:=py) (dn:=0) (x:=.i1) W.O.ob g k1;rw[a5.pt]at t;exact I m D' k e _ _ (.go (xU W.O (a5.bb hn av) f g) t (.done (DA f))) l A (a5.bb K (a5.A9 hn 3)) (Jd b z lt) B (tp.DO id (KO b g)) C
 ·haveI R:ns.ah=0:=h2.resolve_right z;refine aN (a5.le.dest (a5.l6 hs)) λr h=>?_;have rl:r<o.ah:=a5.lt_of_add_lt_add_left (ab h (a5.Km.mp z));refine aN (a5.le.dest (a5.l6 rl)) λt ht=>?_;haveI S:0<r:=a5.pos_of_ne_zero λy=>by replace h:=y▸h;exact a5.sK hs h
  haveI T:t≠0:=λy=>by replace ht:=y▸ht;exact a5.sK rl ht
  haveI U:=a5.lt_of_le_of_ne hi λy=>z (by
   rw[b,y]at u;refine ab ((a5.le_zero.mp (a5.le_of_add_le_add_left u))) ?_;rw[a5.pt];exact v)
  refine tV (dn:=0) W (a5.bb hn av) b hs hi J (w i (lo1 b g)) (a5.ri _) (a5.bb f av) (HK h ((a5.pt r).symm▸a5.l6 rl)) ((a5.pt r).symm▸a5.l6 rl) (a5.mZ h) λm D' k e k1 l A lt B tp C K L=>?_;have E:k.ah<=1:=a5.bb (L U) (a5.mZ (b5 a5.Fy R));haveI M:=EM (dn:=0) (x:=.i1) W.O.ob S k1;rw[a5.pt]at M;have h3:py+r=48*(i+1)+0:=by refine ab (b) ?_;rw[a5.t0,h];rfl
  have G:=(a5.pt t).symm▸a5.bb (ht▸a5.le_add_left t r) v;haveI V:i+1<7:=a5.lt_of_mul_lt_mul_left (a:=48) (a5.fp (a5.mZ h3.symm) (a5.ew (a5.KB rl py) H));refine tV (py:=py+r) (dn:=r) l (a5.bb E av) h3 av lt V (w (i+1) (a5.fp (a5.mZ h3.symm) (a5.KB rl py))) (a5.l6 rl) (a5.bb f av) (Fi ht G) (a5.mZ ht) G λX Y JX c2 k2 N f2 HM OE JN L4 l4 l5=>?_;haveI O:=EM (py:=py) (dn:=r) (x:=.bn r) l.O.ob (a5.pos_of_ne_zero T) k2;rw[ht]at O;rw[CF ht]at N;exact I X Y JX c2 _ _ (.go (xU W.O (a5.bb hn av) f g) M (.go (xU l.O (a5.bb E av) f rl) O (.done (DA f)))) N (A.trans f2) (a5.bb l4 (a5.A9 E 3)) (ht▸a5.t0 py r t▸Jd h3 G HM) (a5.bb B OE) (top2 tp JN h3 rl) (L4.trans C)
end
section
variable{lp:ct}{d U:H}{Z:Mt}{g n k a i j q kd ln sz c py dn p s:a5}{hh:b0}{o:am cy}{ns:am a5}{D:Oc}{F:a5->cy}{P:Prop}{x:V}
structure WO(d m:H)(Z:Mt)(D D':Oc)(dH:am a5)(q j:a5)(hh:b0)(kd ln sz c':a5)(F:a5->cy):Prop where
 W:FW m Z D' dH 1 q j hh kd ln sz c' F
 row:D' 10=Ca kd ln sz (pX 0 c') (pX 1 c') (pX 2 c')
 fr:Fr (15::29::gI) d m
 has:dH≠[]
 ER:dH.ah<=5
 CO:sz<=48*c'
 low:48*c'<sz+48
 DG:D' 11=D 11
theorem Ew.MZ{o:am cy}{c:a5}(B:Ew D c F)(h:∃kd ln sz a b e,o=Ca kd ln sz a b e):Ew (wr D 10 o) c F:=⟨B.bit,B.nm,λi hi=>(aJ (ma i).2.2.1.symm).trans (B.b i hi),B.z,B.le,aW▸h⟩
theorem rz{ns:am a5}{n:a5}:aY ns n≠[]:=λe=>by have:=gM (ns:=ns) (n:=n);rw[e]at this;exact bC this
theorem yI(W:FW d Z D ns 1 q j hh kd ln sz c F)(hn:ns.ah<=1)(E:py<=48*c)(G:sz<=48*c)(t:0<o.ah)(u:o.ah<=48)(v:py+o.ah<=336)(L:48*c<sz+48)(hb:∀i,48*i<py+o.ah->gG i<Z.nb)(h2:ns.ah=0\/py % 48+o.ah<=48)
  (k:∀m D' r g,CA true 11 100 [.bs 16 Z.g,.bs 15 q,.bn py,.d3 o] d (.ok (.bn o.ah) m)->WO d m Z D D' r q j hh kd ln (if sz<py+o.ah then py+o.ah else sz) g (ins F py o)->P):P:=by
 haveI M:=W.O.ob;haveI H:=W.O.s;haveI N:o.ah<=aQ:=a5.bb u av;haveI c0:=sR (lp:=true) H;haveI O:decide ((py:b0)<0)=false:=ia (b0.to.ow (b0.dv _));haveI Q:decide ((672:b0)<py+o.ah)=false:=ia (b0.to.ow (b0.sp.ow (a5.bb v av)));haveI R:=hq (b0.hB.ow t);refine EK W hn (a5.div_add_mod py 48).symm (a5.mod_lt _ av) E t u v hb h2 λm D' r g n T w f x s CO I top A=>?_;haveI V:=f.O.ob;haveI X:=f.N.K1;obtain⟨J9,J8,JO,a,b,e,B⟩:=f.B.row;by_cases z:sz<py+o.ah
 ·replace k:=(et z)▸k;haveI J:=hq (b0.hB.ow z);haveI K:=f.O.fr (S:=[15]) (U:=m.fC 15 q (bg Z.g 1 j hh kd ln (py+o.ah:a5))) (.fC rfl .hJ) rfl;haveI C:dO (m.fC 15 q (bg Z.g 1 j hh kd ln (py+o.ah:a5))) Z.g 1 q hh kd ln (py+o.ah) (pX 0 g) (pX 1 g) (pX 2 g) j:=⟨mx,f.N.pl⟩;refine kL K (a5.bb s av) av C λl k2 h p=>?_
  change Op l Z (wr D' 10 (eR (D' 10) 24 _ _ _ _ _ _)) (aY r 10) 1 at h
  rw[B,vo]at h;refine k l _ _ g ?_ ⟨⟨h,C.fr p rfl,f.B.MZ ⟨_,_,_,_,_,_,rfl⟩⟩,aW,((x.hA rfl).trans (.fC rfl .hJ)).trans (p.hA rfl),rz,a5.bb (bQ _ _) (a5.ic s),CO,by omega,(aJ (by decide)).trans A⟩;apply rt gm rfl rfl;fail"%48?'+%4>;(Ig$6<&$'$''*$'e$+%";apply SS.Jl rfl;fail"%";apply SS.vg;exact w;fail"%RH:8e$:>16&$'e$M'%316'$'0+%27$''*$'5L"
 ·replace k:=(dx z)▸k;haveI J:=ia λy=>z (b0.hB.mp y);refine kL f.O (a5.bb s av) av f.N λl k2 h p=>?_
  change Op l Z (wr D' 10 (eR (D' 10) 24 _ _ _ _ _ _)) (aY r 10) 1 at h
  rw[B,vo]at h;refine k l _ _ g ?_ ⟨⟨h,f.N.fr p rfl,f.B.MZ ⟨_,_,_,_,_,_,rfl⟩⟩,aW,(x.hA rfl).trans (p.hA rfl),rz,a5.bb (bQ _ _) (a5.ic s),a5.bb G (a5.qy 48 I),by omega,(aJ (by decide)).trans A⟩;apply rt gm rfl rfl;fail"%48?'+%4>;(Ig$6<&$'$''*$'e$+%";apply SS.Jl rfl;fail"%";apply SS.vg;exact w;fail"%4H:8e$t>16&$'e$'+%27$''*$'5L"
theorem Lb(a:d.ed 16 g=ap (jZ g))(h:CA true 11 100 [.bs 16 g,.bs 15 q,.bn py,.d3 o] d (.ok (.bn o.ah) U))(b:d.ed 15 q=ap (bg g 1 j hh kd ln sz)):CA true 12 80 [.bs 15 q,.bn py,.d3 o] d (.ok (.bn o.ah) U):=by apply rt kZ rfl rfl;fail"5C<&$'$''*$'"
end
section
variable{lp:ct}{d U:H}{Z:Mt}{n k a i j q kd ln sz c py p s f en gz t:a5}{hh:b0}{b:am cy}{ns:am a5}{D:Oc}{F:a5->cy}{P:Prop}{x y z w:V}
theorem FW.on(W:FW d Z D ns a q j hh kd ln sz c F){S:am a5}(h:Fr S d U)(e:A6 S G8=true)(b:(S.b6 15 ||S.b6 29)=false):FW U Z D ns a q j hh kd ln sz c F:=⟨W.O.fr h e,W.N.fr h b,W.B⟩
theorem yu(W:FW d Z D ns a q j hh kd ln sz c F)(e:py=48*i+s)(hs:s<48)(hi:i<c)(B:gG i<Z.nb)(h:d.ed 32 f=ap (.aB b))(hb:b.ah+p<=400)(p2:s+p<=48)(C:(if(en:b0) - py<48 - (s:b0)then(en:b0) - py else 48 - (s:b0))=(p:a5))
  (E:∀m x1 G H x4,SB true 11 [.bs 16 Z.g,.bs 15 q,.bn py,.bn gz,.bn en,.bs 32 f,x,y,z,w] d [.as (.v 6) (.b .Mod (.v 2) (.a (.a (.v 0) 82) 32)),.as (.v 7) (.bi 1 [.b .Sub (.a (.a (.v 0) 82) 32) (.v 6),.b .Sub (.v 4) (.v 2)]),.as (.v 8) (.m (.v 0) 97 [.v 1,.b .zn (.v 2) (.a (.a (.v 0) 82) 32),.c (.gg false)]),.xD (.mc .Eq (.v 8) (.c (.bn 0))) [.ex (.m (.v 5) 3 [.bi 3 [.v 7]])] [.as (.v 9) (.m (.a (.v 0) 81) 4 [.v 8]),.ex (.m (.v 5) 3 [.sl (.a (.v 9) 46) (.v 6) (.b .s0 (.v 6) (.v 7))]),.ex (.m (.a (.v 0) 81) 59 [.v 9])],.as (.v 2) (.b .s0 (.v 2) (.v 7))] .nx [.bs 16 Z.g,.bs 15 q,.bn (py+p:a5),.bn gz,.bn en,.bs 32 f,x1,G,H,x4] m->FW m Z D ns a q j hh kd ln sz c F->m.ed 32 f=ap (.aB (b++DD F py p))->Fr (32::40::gI) d m->P):P:=by
 haveI L:=W.O.ob;haveI M:=W.O.s;haveI N:V.bn ((py:b0) % 48)=.bn s:=b5 V.bn (show((py % 48:a5):b0)=s by refine ab (e) ?_;rw[a5.mul_add_mod];exact ab (a5.Ik hs) rfl);haveI O:V.bn ((py:b0)/48)=.bn i:=b5 V.bn (show((py/48:a5):b0)=i by refine ab (e) ?_;rw[a5.mul_add_div av,a5.div_eq_of_lt hs];rfl);haveI Q:=Fh C;have u:=ma i;haveI R:((gG i:b0)==0)=false:=ki.ow λh=>kk (a5.ft u.2.2.2.2) (by refine ab (b0.kP.zv h) ?_;decide);refine AK (mk:=false) W hi λm1 k1 g l=>?_;haveI S:=g.ob;haveI T:=g.c;refine iM g u.2.2.2.2 (.wl B) λk p1 v k2 n b1 I o=>?_;rw[W.B.b i hi]at I;haveI U:=Fr.at o (Fr.at l h rfl) rfl;haveI A:Iu (DD F (48*i) 48) s (s+p)=DD F py p:=by unfold Iu;rw[rP p2,rQ (a5.f0 _ _),a5.s7,e]
 haveI X:b.ah+(Iu (DD F (48*i) 48) s (s+p)).ah<=aQ:=A▸eP▸a5.bb hb av;haveI Y:(DD F (48*i) 48).ah<=aQ:=by refine ab eP ?_;decide
 haveI fr:Fr [32,40] v ((v.hM 40 (.aB (Iu (DD F (48*i) 48) s (s+p)))).fC 32 f (.aB (b++Iu (DD F (48*i) 48) s (s+p)))):=.fC rfl (.hM rfl .hJ);haveI r:=n.fr fr rfl;haveI g6:=r.ob;haveI g7:=r.c;haveI g8:=n.ob;haveI g9:=n.c;refine iL r λJ k4 K t=>E J (.bn s) (.bn p) (.bn (gG i)) (.bs 11 k) ?_ ⟨K,((W.N.fr (l.trans o) rfl).fr fr rfl).fr t rfl,W.B⟩ (Fr.at t (mx.trans (by exact ab A rfl)) rfl) (((l.trans o).hA rfl).trans ((fr.hA rfl).trans (t.hA rfl)));fail"%TO;(E&$'$'v";decide;fail"$K%TOJ)AE&$'$''W)1W,w$K%9P$')()O;(E&$'$'h";decide;decide;fail"$)";exact xb;fail",*$'%48D$%9<&$'$''*$'%2_()o&$'U('U16'";apply fL.aB (ce:=40);fail"$";exact .wl rfl;exact .wl Gy;fail"$,";apply lF.zM;fail"$$.$%2<&$'$''*$'+%916+"
theorem E3(E:∀i,i<c->gG i<Z.nb):∀{t py:a5} {d:H} {b:am cy} {x y z w:V},FW d Z D ns a q j hh kd ln sz c F->py+t=en->en<=48*c->d.ed 32 f=ap (.aB b)->b.ah+t<=400->
  (∀m n x1 k o x4,jw true 11 (.mc .Lt (.v 2) (.v 4)) [.as (.v 6) (.b .Mod (.v 2) (.a (.a (.v 0) 82) 32)),.as (.v 7) (.bi 1 [.b .Sub (.a (.a (.v 0) 82) 32) (.v 6),.b .Sub (.v 4) (.v 2)]),.as (.v 8) (.m (.v 0) 97 [.v 1,.b .zn (.v 2) (.a (.a (.v 0) 82) 32),.c (.gg false)]),.xD (.mc .Eq (.v 8) (.c (.bn 0))) [.ex (.m (.v 5) 3 [.bi 3 [.v 7]])] [.as (.v 9) (.m (.a (.v 0) 81) 4 [.v 8]),.ex (.m (.v 5) 3 [.sl (.a (.v 9) 46) (.v 6) (.b .s0 (.v 6) (.v 7))]),.ex (.m (.a (.v 0) 81) 59 [.v 9])],.as (.v 2) (.b .s0 (.v 2) (.v 7))] n [.bs 16 Z.g,.bs 15 q,.bn py,.bn gz,.bn en,.bs 32 f,x,y,z,w] d .nx [.bs 16 Z.g,.bs 15 q,.bn en,.bn gz,.bn en,.bs 32 f,x1,k,o,x4] m->FW m Z D ns a q j hh kd ln sz c F->m.ed 32 f=ap (.aB (b++DD F py t))->Fr (32::40::gI) d m->P)->P:=by
 intro t
 induction t using a5.strongRecOn with
 |ind t K=>
  intro py d b x y z w W e G h hb A;rcases a5.eq_zero_or_pos t with rfl |tp
  ·obtain rfl:py=en:=e;refine A d 0 x y z w (.fin (b:=decide ((py:b0)<py)) ?_ (ia (b0.q5 _))) W (h.trans (b5 (λl=>ap (O.aB l)) (am.x6 b).symm)) .hJ;fail"8?"
  ·haveI hs:=a5.mod_lt py (show 0<48 by decide);haveI J:=(a5.div_add_mod py 48).symm;have lt:py<en:=e▸a5.wO tp;haveI hi:py/48<c:=a5.div_lt_of_lt_mul (a5.ew lt G);haveI ht:ET true 11 [.bs 16 Z.g,.bs 15 q,.bn py,.bn gz,.bn en,.bs 32 f,x,y,z,w] d (.mc .Lt (.v 2) (.v 4)) (.ok (decide ((py:b0)<en)) d):=by
    fail"8?"
   haveI hd:decide ((py:b0)<en)=true:=hq (b0.hB.ow lt);by_cases v:py % 48+t<=48
   ·refine yu (gz:=gz) (x:=x) (y:=y) (z:=z) (w:=w) W J hs hi (E _ hi) h hb v (Fi e v) λm x1 k o x4 s B h1 C=>?_;rw[e]at s;exact A m _ x1 k o x4 (.gt ht hd s (.fin (b:=decide ((en:b0)<en)) (by
     fail"8?"
     ) (ia (b0.q5 _)))) B h1 C
   ·refine aN (a5.le.dest (a5.l6 hs)) λr g=>?_;haveI L:0<r:=a5.pos_of_ne_zero λy=>by replace g:=y▸g;exact a5.sK hs g
    have rl:r<t:=a5.lt_of_add_lt_add_left (a5.fp (a5.mZ g) (a5.Km.mp v));refine aN (a5.le.dest (a5.l6 rl)) λI u=>?_;haveI M:py+r<=en:=e▸a5.kQ (a5.l6 rl) py;refine yu (p:=r) (gz:=gz) (x:=x) (y:=y) (z:=z) (w:=w) W J hs hi (E _ hi) h (a5.bb (a5.kQ (a5.l6 rl) _) hb) (a5.mZ g) (HK g M) λm x1 k o x4 s B h1 C=>?_;haveI N:I<t:=a5.x3 (a5.lt_add_of_pos_left L) u;refine K I N (x:=x1) (y:=k) (z:=o) (w:=x4) B (by rw[a5.t0];refine ab u ?_;exact e) G h1 (by rw[am.ep,eP,a5.t0,u];exact hb) λQ n R S T U X Y h2 f2=>?_;refine A Q _ R S T U (.gt ht hd s X) Y (h2.trans (by rw[am.sN,←u];exact ab kF rfl)) (C.trans f2)
theorem BN(W:FW d Z D ns a q j hh kd ln sz c F)(hb:∀i,i<c->gG i<Z.nb)(b:sz<=48*c)(e:py+t<=sz)(h4:t<=400)(ht:(if(py:b0)+gz<sz then(py:b0)+gz else sz)=(py+t:a5))(f:∀m,CA true 13 79 [.bs 15 q,.bn py,.bn gz] d (.ok (.d3 (DD F py t)) m)->FW m Z D ns a q j hh kd ln sz c F->Fr (32::40::gI) d m->P):P:=by
 haveI o:=W.O.ob;haveI p:=W.N.K1;haveI r:decide ((py:b0)<0)=false:=ia (b0.to.ow (b0.dv _));haveI s:decide ((gz:b0)<0)=false:=ia (b0.to.ow (b0.dv _));haveI u:=Fh ht;haveI g:=W.on (S:=[32]) (U:=d.hM 32 (.aB [])) (.hM rfl .hJ) rfl rfl;haveI v:(DD F py t).ah<=aQ:=by exact ab (eP) (a5.bb h4 av)
 refine E3 hb (x:=.i1) (y:=.i1) (z:=.i1) (w:=.i1) (gz:=gz) g rfl (a5.bb e b) aK (by refine ab (am.IK) ?_;rw[a5.pt];exact h4) λm n x1 A B x4 h k h2 l=>f m ?_ k (Fr.trans (.hM rfl .hJ) l);haveI c1:CA true 12 99 [.bs 16 Z.g,.bs 15 q,.bn py,.bn gz] d (.ok (.d3 (DD F py t)) m):=by
  apply rt kX rfl rfl;fail"%4H:8?':8?'M'+%TOJ)&$')16,w$K%9J,";exact bJ.NL (ce:=32);fail"%";apply SS.vg;fail"}5CI";apply bJ.uR;fail"$$"
 apply rt mC rfl rfl;fail"5C<&$'$''*$'"
end
section
variable{lp:ct}{d U:H}{Z:Mt}{I n k a i j q p0 p1 p2 kd ln sz c:a5}{hh:b0}{b:am cy}{ns:am a5}{D:Oc}{F:a5->cy}{P:Prop}
theorem yJ(O:Op d Z D ns a)(o:I<=3)(R:dK (D (10+I/2)) (I % 2*24) kd ln sz p0 p1 p2)(b1:kd<65536)(e:ln<65536)(f:∀m,CA true 4 87 [.bs 16 Z.g,.bn I] d (.ok (.KS [.bn kd,.bn ln]) m)->Op m Z D ns a->Fr gI d m->P):P:=by haveI q:=O.ob;haveI g:=O.s;haveI r:=O.c;haveI c0:=Ak (lp:=true) (I:=I) g;have hb:a5.ble 10 (10+I/2)=true:=a5.ov (a5.f0 _ _);refine iM O hb (.u0 (by omega)) λk p m1 c1 b s c h=>?_;haveI t:=dr (lp:=true) c R.h0.1 R.h0.2 b1 (by omega);haveI u:=dr (lp:=true) (i:=I % 2*24+6) c R.h3.1 R.h3.2 e (by omega);haveI v:=b.ob;haveI w:=b.c;refine iL b λj x l n=>f j ?_ l (h.trans n);apply rt ij rfl rfl;fail"%p<&$'$''*$''NKNKk%9<&$'$''*$'%9";apply EX.tp;fail")F)&$')(,*$')F)&$')16,*$',0%2<&$'$''*$'5L"
def NO:am S:=[.xD (.mc .Eq (.s (.m (.v 0) 88 [.v 4]) (.c (.bn 0))) (.g (.bn 0))) [.as (.v 5) (.k 15 [.v 0,.v 4]),.ast [.a (.v 5) 19,.a (.v 5) 27,.a (.v 5) 79] (.tp [.v 1,.v 2,.v 3]),.as (.a (.v 5) 80) (.b .H3 (.ls [.c (.bn 0)]) (.b .s0 (.a (.a (.v 0) 82) 71) (.c (.bn 1)))),.as (.s (.a (.v 0) 83) (.v 4)) (.v 5),.ex (.m (.v 0) 89 [.v 5]),.rt (.v 5)] []]
theorem Jr(O:Op d Z D ns a)(b:I<=3)(R:dK (D (10+I/2)) (I % 2*24) kd ln sz p0 p1 p2)(c:kd≠0)(b1:kd<65536)(e:ln<65536){x:V}(f:∀m,SB true 5 [.bs 16 Z.g,.bn 2,.bn 0,.bn 0,.bn I,x] d NO .nx [.bs 16 Z.g,.bn 2,.bn 0,.bn 0,.bn I,x] m->Op m Z D ns a->Fr gI d m->P):P:=by haveI j:=O.ob;haveI k:=eF λh=>c (b0.kP.zv h);refine yJ O b R b1 e λm1 c1 g i=>f m1 ?_ g i;fail"%4BV7$''*$''";exact bD.KS rfl av;fail"'D$++"
theorem Eo(O:Op d Z D [] 1)(b:I<=3)(R:dK (D (10+I/2)) (I % 2*24) 0 0 0 0 0 0){x:V}(ht:d.ed 28 Z.g=ap (.di []))(n:∀m q j,SB true 5 [.bs 16 Z.g,.bn 2,.bn 0,.bn 0,.bn I,x] d NO (.rt (.bs 15 q)) [.bs 16 Z.g,.bn 2,.bn 0,.bn 0,.bn I,.bs 15 q] m->Op m Z (wr D (10+I/2) (eR (D (10+I/2)) (I % 2*24) 2 0 0 0 0 0)) (aY [] (10+I/2)) 1->dO m Z.g I q 1 2 0 0 0 0 0 j->m.ed 28 Z.g=ap (.di [(I,.bs 15 q)])->Fr xt d m->P):P:=by haveI u:=O.ob;haveI v:=O.s;refine yJ O b R av av λm1 c1 c h=>?_;haveI w:=c.ob;haveI y:=c.s;have z:=Fr.at h ht rfl;haveI A:=vS (lp:=true) (g:=Z.g) (I:=I) (d:=m1);haveI B:aP 4:=jA (by decide) (by decide);haveI C:aP (I:b0):=Br (a5.bb b (by decide));haveI E:aP 2:=jA (by decide) (by decide);generalize e:((((((m1.hM 15 (bg Z.g I (m1.gz 29) 1 0 0 0)).hM 29 (.dG [])).fC 15 (m1.gz 15) (bg Z.g I (m1.gz 29) 1 2 0 0)).fC 15 (m1.gz 15) (bg Z.g I (m1.gz 29) 1 2 0 0)).fC 15 (m1.gz 15) (bg Z.g I (m1.gz 29) 1 2 0 0)).hM 40 (.dG [iV 0]))=X;haveI o:X.gz 29=m1.gz 29+1:=e▸rfl;have p:Fr [15,28,29,40] m1 X:=e▸.hM rfl (.fC rfl (.fC rfl (.fC rfl (.hM rfl (.hM rfl .hJ)))));generalize a:((X.hM 29 (.dG [iV 0,iV 0,iV 0])).fC 15 (m1.gz 15) (bg Z.g I (m1.gz 29+1) 1 2 0 0)).fC 28 Z.g (.di [((I:b0),.bs 15 (m1.gz 15))])=M;haveI fr:Fr [15,28,29,40] m1 M:=a▸.fC rfl (.fC rfl (.hM rfl p));have k:dO M Z.g I (m1.gz 15) 1 2 0 0 0 0 0 (m1.gz 29+1):=a▸⟨(a_ rfl).trans mx,(a_ rfl).trans ((a_ rfl).trans (o▸aK))⟩;haveI r:M.ed 28 Z.g=ap (.di [((I:b0),.bs 15 (m1.gz 15))]):=a▸mx;haveI l:=c.fr fr rfl;haveI F:=l.ob;refine kL (ns:=[]) (q:=m1.gz 15) l (by decide) b k λs k2 t f=>n s (m1.gz 15) (m1.gz 29+1) ?_ t (k.fr f rfl) (Fr.at f r rfl) ((h.hA rfl).trans ((fr.hA rfl).trans (f.hA rfl)));subst a;subst e;fail"5RBV7$''*$''";exact bD.KS (i:=0) rfl av;fail"'D'%9";apply xk;fail"Y'*$'%p";apply EX.JM rfl;fail"0'N";apply TG.ev;fail"(.'0N";apply TG.ev;fail"(.'0N";apply TG.ev;fail"(.'0k%3;";apply EX.ls (ce:=40);fail"Y0AE&$'$''6";apply au.rep (ce:=29);fail".";decide;fail"'.'0%T(^&";(repeat first |exact a4.mx |assumption |refine(a4.K.a_ rfl).trans ?_ |refine(a4.K.bz rfl).trans ?_);fail"'(";apply gB.di;fail"$$";decide;fail"%27$''*$'5L"
end
section
variable{lp:ct}{d U:H}{Z:Mt}{I n k a i j q kd ln sz c h p0 p1 p2:a5}{hh:b0}{b:am cy}{ns:am a5}{D:Oc}{F:a5->cy}{P:Prop}{tl:am (b0×V)}
theorem AE(O:Op d Z D [] 1)(R:dK (D 10) 24 0 0 0 0 0 0)(ht:d.ed 28 Z.g=ap (.di []))(a:∀m q j,CA true 6 89 [.bs 16 Z.g,.bn 2] d (.ok (.bs 15 q) m)->Op m Z (wr D 10 (eR (D 10) 24 2 0 0 0 0 0)) (aY [] 10) 1->dO m Z.g 1 q 1 2 0 0 0 0 0 j->m.ed 28 Z.g=ap (.di [((1:a5),.bs 15 q)])->Fr xt d m->P):P:=by haveI g:=O.ob;haveI h:=O.s;haveI i:aP 4:=jA (by decide) (by decide);haveI k:aP 1:=jA (by decide) (by decide);refine Eo (x:=.i1) O av R ht λm q j c1 b c e f=>a m q j ?_ b c e f;apply MV dX rfl rfl;fail"%4>(";apply EX.JM rfl;fail"0";exact aq.HF (xs:=[1,2,3]);fail"'+5";apply SS.zB;apply IT.er;fail")=)E&$'$',";apply rG.Io;fail"$$";exact aV.Hy trivial rfl c1
theorem AD(O:Op d Z D [] 1)(b:dK (D 10) 24 2 1 0 0 0 0)(R:dK (D 11) 0 0 0 0 0 0 0)(ht:d.ed 28 Z.g=ap (.di []))(c:∀m q j,CA true 6 89 [.bs 16 Z.g,.bn 2] d (.ok (.bs 15 q) m)->Op m Z (wr D 11 (eR (D 11) 0 2 0 0 0 0 0)) (aY [] 11) 1->dO m Z.g 2 q 1 2 0 0 0 0 0 j->m.ed 28 Z.g=ap (.di [((2:a5),.bs 15 q)])->Fr xt d m->P):P:=by haveI k:=O.ob;haveI l:=O.s;haveI n:aP 4:=jA (by decide) (by decide);haveI o:aP 1:=jA (by decide) (by decide);refine Jr (I:=1) (x:=.i1) O av b (by decide) (by decide) (by decide) λp c0 e a=>?_;refine Eo (I:=2) (x:=.i1) e av R (Fr.at a ht rfl) λm q j c1 f g h i=>c m q j ?_ f g h ((a.hA rfl).trans i);apply MV dX rfl rfl;fail"%4>(";apply EX.JM rfl;fail"0";exact aq.HF (xs:=[1,2,3]);fail"'+5";apply SS.zB;apply IT.er;fail")=)E&$'$',";apply rG.Io;fail"$$";exact aV.d2 trivial rfl c0 (aV.Hy trivial rfl c1)
theorem qp{v:V}{n:b0}:bY [(n,v)] n=ap v:=et rfl
theorem Ao(X:Fix d Z)(h1:1<=I)(h3:I<=3)(ht:d.ed 28 Z.g=ap (.di tl))(a:bY tl (I:b0)=ap (.bs 15 q))(hn:d.ed 15 q=ap (bg Z.g I j hh kd ln sz)):CA true 3 88 [.bs 16 Z.g,.bn I] d (.ok (.bs 15 q) (d.fC 15 q (bg Z.g I j (hh+1) kd ln sz))):=by
 haveI b:(bY tl (I:b0)).z_=true:=by rw[a];rfl
 haveI c:=X.nodes;haveI c1:=jM (lp:=true) X h1 h3;haveI e:=Gh (lp:=true) hn;apply rt iW rfl rfl;fail"%27$''*$'5R>(&$'";apply aq.inD;fail"$$5C<V&$''";apply bD.di;fail"$$$''*$'"
theorem tW(O:Op d Z D ns a)(h1:1<=I)(h3:I<=3)(ht:d.ed 28 Z.g=ap (.di tl))(x:bY tl (I:b0)=bk)(y:tl.ah<=3)(R:dK (D (10+I/2)) (I % 2*24) kd ln sz p0 p1 p2)(A:kd≠0)(b1:kd<65536)(B:ln<65536)(C:sz<4294967296)(E:p0<4294967296)(F:p1<4294967296)(G:p2<4294967296)
  (H:∀m q j,CA true 6 88 [.bs 16 Z.g,.bn I] d (.ok (.bs 15 q) m)->Op m Z D ns a->dO m Z.g I q 1 kd ln sz p0 p1 p2 j->m.ed 28 Z.g=ap (.di (ee tl I (.bs 15 q)))->q=d.gz 15->m.gz 15=q+1->(∀i,i≠q->m.ed 15 i=d.ed 15 i)->Fr xt d m->P):P:=by
 haveI V:=O.ob;haveI J:=O.s;haveI c1:=jM (lp:=true) O.x h1 h3;haveI W:=Ak (lp:=true) (I:=I) J;haveI K:=vS (lp:=true) (g:=Z.g) (I:=I) (d:=d);generalize l:(d.hM 15 (bg Z.g I (d.gz 29) 1 0 0 0)).hM 29 (.dG [])=X at K;have o:Fr [15,29] d X:=l▸.hM rfl (.hM rfl .hJ);haveI r:=O.fr o rfl;haveI g3:=r.ob;haveI g4:=r.c;haveI L:X.ed 15 (d.gz 15)=ap (bg Z.g I (d.gz 29) 1 0 0 0):=l▸(bz rfl).trans aK;have hb:a5.ble 10 (10+I/2)=true:=a5.ov (a5.f0 _ _);refine iM r hb (.u0 (by omega)) λk p m1 k1 s y1 M c=>?_;haveI N:=Fr.at c L rfl;haveI g5:=s.ob;haveI g6:=s.s;haveI Q:=uI N M R (by omega) b1 B C E F G;generalize n:(m1.fC 15 (d.gz 15) (bg Z.g I (m1.gz 29) 1 kd ln sz)).hM 29 (.dG [iV p0,iV p1,iV p2])=Y at Q;haveI t:Fr [15,29] m1 Y:=n▸.hM rfl (.fC rfl .hJ);haveI u:=s.fr t rfl;haveI g7:=u.ob;haveI g8:=u.c;haveI S:dO Y Z.g I (d.gz 15) 1 kd ln sz p0 p1 p2 (m1.gz 29):=n▸⟨(bz rfl).trans mx,aK⟩;refine iL u λb k3 v e=>?_;haveI g9:=v.ob;haveI w:=S.fr e rfl;haveI G1:=w.K1;haveI e1:((kd:b0)==0)=false:=ki.ow λh=>A (b0.kP.zv h);haveI JP:aP (I:b0):=Br (a5.bb h3 (by decide));haveI hz:tl.ah<=aQ:=a5.bb y av;haveI ei:(bY tl (I:b0)).z_=false:=by rw[x];rfl
 haveI fa:Fr xt d b:=(o.hA rfl).trans ((c.hA rfl).trans ((t.hA rfl).trans (e.hA rfl)));haveI t3:b.ed 28 Z.g=ap (.di tl):=Fr.at e (Fr.at t (Fr.at c (Fr.at o ht rfl) rfl) rfl) rfl;haveI f:Fr [28] b (b.fC 28 Z.g (.di (ee tl I (.bs 15 (d.gz 15))))):=.fC rfl .hJ;have T:∀i,i≠d.gz 15->(b.fC 28 Z.g (.di (ee tl I (.bs 15 (d.gz 15))))).ed 15 i=d.ed 15 i:=λi hi=>(Gc (f.go 15 rfl).1 i).trans ((Gc (e.go 15 rfl).1 i).trans ((by rw[←n];exact(bz rfl).trans (dx λz=>hi z.2):Y.ed 15 i=m1.ed 15 i).trans ((Gc (c.go 15 rfl).1 i).trans (by rw[←l];exact(bz rfl).trans (dx λz=>hi z.2)))));have U:(b.fC 28 Z.g (.di (ee tl I (.bs 15 (d.gz 15))))).gz 15=d.gz 15+1:=(f.go 15 rfl).2.trans ((e.go 15 rfl).2.trans ((by rw[←n];rfl:Y.gz 15=m1.gz 15).trans ((c.go 15 rfl).2.trans (by rw[←l];rfl))));refine H _ (d.gz 15) (m1.gz 29) ?_ (v.fr f rfl) (w.fr f rfl) mx rfl U T (fa.trans (f.hA rfl));apply rt iW rfl rfl;fail"%27$''*$'%4>(&$'";apply aq.inD;fail"$$+%p<&$'$''*$''NKNKk%9";apply xk;fail"Y'*$'%9<&$'$''*$'%2P$')&$')()E&$'$',*$'%2<&$'$''*$'%4B&$''D$+%T(^&$'(";apply gB.di;fail"$$$5L"
theorem CU(X:Fix d Z)(ht:d.ed 28 Z.g=ap (.di [((I:b0),.bs 15 q)]))(hn:d.ed 15 q=ap (bg Z.g I j 1 kd 1 sz)):CA lp 1 92 [.bs 16 Z.g,.bs 15 q] d (.ok .bk ((d.fC 28 Z.g (.di [])).fC 15 q (bg Z.g I j 0 kd 1 sz))):=by
 haveI b:=X.nodes;haveI c:[((I:b0),V.bs 15 q)].ah<=aQ:=by show(1:a5)<=1000000;decide
 haveI e:(bY [((I:b0),V.bs 15 q)] (I:b0)).ww .bk=.bs 15 q:=by rw[qp];rfl
 haveI f:=qp (v:=V.bs 15 q) (n:=(I:b0));have a:jv [((I:b0),V.bs 15 q)] (I:b0)=[]:=et rfl;rw[←a];apply nx mB rfl rfl;fail"%4H:B&$''?':BO_&$')&$',";apply lF.zx;fail"$$$'";exact aq.DL;fail"'M'+%RB&$''D'%4B&$''D'+%";apply SS.dl;fail"&$'&$'";apply tu.di;fail"$$$+%3A&";(repeat first |exact a4.mx |assumption |refine(a4.K.a_ rfl).trans ?_ |refine(a4.K.bz rfl).trans ?_);fail"''W'";(repeat first |exact a4.mx |assumption |refine(a4.K.a_ rfl).trans ?_ |refine(a4.K.bz rfl).trans ?_);fail"'0+"
end
def NC:am S:=[.ast [.v 3,.v 4,.v 5] (.m (.a (.v 0) 82) 91 [.v 2]),
 (.as (.v 6) (.m (.a (.v 0) 81) 4 [.v 3])),
 (.xD (.mc .Eq (.b .GZ (.s (.a (.v 6) 46) (.v 4)) (.v 5)) (.c (.bn 0))) [.as (.v 1) (.b .s0 (.v 1) (.c (.bn 1)))] []),
 (.ex (.m (.a (.v 0) 81) 59 [.v 6]))]
def frees(t:a5):am a5->a5
 | []=>0
 |i::l=>Fe (a5.ble t i) 1 0+frees t l
section
variable{d U:H}{Z:Mt}{n k a i t:a5}{ns:am a5}{D:Oc}{P:Prop}
theorem wR:∀{l:am a5},frees t (l++[i])=frees t l+Fe (a5.ble t i) 1 0:=by
 intro a
 induction a with
 |iv=>exact a5.tz _ _
 |d2 j l b=>show _+frees t (l++[i])=_+frees t l+_;rw[b,a5.t0]
theorem sD:∀{n:a5},frees t (am.range n)=n - t:=by
 intro a
 induction a with
 |zero=>exact(a5.zero_sub _).symm
 |Fy n b=>
  rw[am.range_succ,wR,b];cases h:a5.ble t n with
  |true=>have:=a5.ft h;exact(a5.succ_sub this).symm
  |false=>
   have:¬t<=n:=λz=>by rw[a5.ov z]at h;exact mj h
   have:=a5.lt_of_not_le this;show n - t+0=_;rw[a5.Ij (a5.l6 this),a5.Ij this]
theorem Ct(O:Op d Z D ns a)(hb:D 12=bm t)(ht:t<=8)(hi:i<=18){f:a5}{v3 v4 v5 v6:V}(e:∀m g,SB true 5 [.bs 16 Z.g,.bn f,.bn (13+i:a5),v3,v4,v5,v6] d NC .nx [.bs 16 Z.g,.bn (f+Fe (a5.ble t i) 1 0:a5),.bn (13+i:a5),.bn 12,.bn (sY i),.bn (ky i),g] m->Op m Z D ns a->Fr gI d m->P):P:=by
 haveI s:=O.ob;haveI u:=O.s;haveI v:=O.c;haveI c1:=i9 (lp:=true) O.x hi;haveI w:=vW t i hi;haveI q1:sY i<2^62:=a5.uo (md i hi) av;haveI p0:(0:b0)<=((bt t i).fo:b0):=b0.dv _;haveI p1:(0:b0)<=((ky i:a5):b0):=b0.dv _;have c:=uS t ht i hi;refine iM O (n:=12) rfl (.u0 av) λk p m1 k1 b b1 j l=>?_;rw[hb]at j;haveI x:=b.ob;haveI y:=b.c;refine iL b λo k2 q r=>e o (.bs 11 k) ?_ q (l.trans r);cases h:a5.ble t i with
 |true=>
  rw[h]at c;fail"%p<&$'$''*$''NKNKNKk%9<&$'$''*$'%RBAV&$''";apply bD.aB;fail"$$$'l$$'D$%916+%2<&$'$''*$'+"
 |false=>
  rw[h]at c;fail"%p<&$'$''*$''NKNKNKk%9<&$'$''*$'%4BAV&$''";apply bD.aB;fail"$$$'l$$'D$+%2<&$'$''*$'+"
theorem zI(hb:D 12=bm t)(ht:t<=8):∀{l:am a5} {d:H} {f:a5} {v2 v3 v4 v5 v6:V},(∀i,i∈l->i<=18)->Op d Z D ns a->(∀m k n x4 x5 b,aV true 5 (λY=>Fw) (λv vs cb=>cb=vs.fC 2 v) NC (l.hC λ(i:a5)=>V.bn (13+1*(i:b0))) [.bs 16 Z.g,.bn f,v2,v3,v4,v5,v6] d .nx [.bs 16 Z.g,.bn (f+frees t l:a5),k,n,x4,x5,b] m->Op m Z D ns a->Fr gI d m->P)->P:=by
 intro o
 induction o with
 |iv=>intro d f v2 v3 v4 v5 v6 c O g;exact g _ _ _ _ _ _ (.iv trivial) O .hJ
 |d2 i l p=>
  intro d f v2 v3 v4 v5 v6 c O g;refine Ct (f:=f) (v3:=v3) (v4:=v4) (v5:=v5) (v6:=v6) O hb ht (c i (.sk _)) λm1 b s1 q r=>?_;have e:V.bn (13+1*(i:b0))=.bn ((13+i:a5):b0):=b5 V.bn (by omega);refine p (f:=f+Fe (a5.ble t i) 1 0) (v2:=.bn (13+i:a5)) (v3:=.bn 12) (v4:=.bn (sY i)) (v5:=.bn (ky i)) (v6:=b) (λj z=>c j (.sy _ z)) q λm s u w x y h A B=>g m s u w x y ?_ A (r.trans B);rw[a5.t0]at h;refine .d2 (cb:=[.bs 16 Z.g,.bn f,.bn (13+i:a5),v3,v4,v5,v6]) trivial ?_ s1 h;show _=_;rw[←e];rfl
theorem o7(O:Op d Z D ns a)(hb:D 12=bm t)(ht:t<=8)(b:Z.nb<=32)(g:∀m,CA true 6 136 [.bs 16 Z.g] d (.ok (.bn (Z.nb - 13 - t:a5)) m)->Op m Z D ns a->Fr gI d m->P):P:=by haveI k:=O.ob;haveI n:=O.s;have e:((Z.nb:b0) - 13).fo=Z.nb - 13:=b0.toNat_sub Z.nb 13;haveI o:=Br (a5.bb b (by decide));haveI p:aP 13:=jA (by decide) (by decide);refine zI (l:=am.range (Z.nb - 13)) (f:=0) (v2:=.i1) (v3:=.i1) (v4:=.i1) (v5:=.i1) (v6:=.i1) hb ht (λi z=>a5.F6 (a5.ew (am.mem_range.mp z) (a5.sub_le_sub_right b 13))) O λm q r x4 x5 s c h j=>g m ?_ h j;rw[sD,a5.pt]at c;apply rt eJ rfl rfl;fail"%";apply SS.Jl rfl;fail"%";apply SS.lT;apply IT.er;fail")E&$'$')E&$'$',";apply rG.Io;fail"$$";rw[e];exact c;fail"5L"
end
def gH(S:am a5)(d U:H):Prop:=∀t,S.b6 t=false->U.ed t=d.ed t/\U.gz t=d.gz t
theorem gH.at{S:am a5}{d U:H}{t k:a5}{o:bS O}(f:gH S d U)(h:d.ed t k=o)(c:S.b6 t=false):U.ed t k=o:=(Gc (f t c).1 k).trans h
section
variable{S S':am a5}{d U ay:H}{t k:a5}{o:O}
theorem Fr.z(f:Fr S d U):gH S d U:=f.go
theorem gH.hJ:gH S d d:=λZ Z=>⟨rfl,rfl⟩
theorem gH.trans(a:gH S d U)(b:gH S U ay):gH S d ay:=λt h=>⟨(b t h).1.trans (a t h).1,(b t h).2.trans (a t h).2⟩
theorem gH.fC(h:S.b6 t=true)(a:gH S d U):gH S d (U.fC t k o):=λt' h'=>⟨(funext λk'=>dx λz=>by replace h':=h▸z.1▸h';exact mj h').trans (a t' h').1,(a t' h').2⟩
theorem gH.hM(h:S.b6 t=true)(a:gH S d U):gH S d (U.hM t o):=λt' h'=>⟨(funext λk'=>dx λz=>by replace h':=h▸z.1▸h';exact mj h').trans (a t' h').1,(dx λz=>by replace h':=h▸z▸h';exact mj h').trans (a t' h').2⟩
theorem gH.hA(a:gH S d U)(h:S.l3 S'.b6=true):gH S' d U:=λt q=>a t (ct.sA.ow λz=>by
 rw[am.fA]at z;replace q:=(am.nw.mp h t z)▸q;exact mj q)
end
theorem Gn{m:H}{t i n:a5}{o a:O}(h:i=n)(h2:m.ed t i=ap o)(e:o=a):m.ed t n=ap a:=h▸e▸h2
theorem G6{lp:ct}{n f t i g:a5}{ws:am V}{d:H}{r:R V}(h:i=g)(c:CA lp n f (.bs t i::ws) d r):CA lp n f (.bs t g::ws) d r:=h▸c
def Mt.nu(g nb:a5)(k:Oc):Mt:=⟨g,nb,0,0,bk,bk,k,[],false⟩
section
variable{d U:H}{g nb:a5}{Z:Mt}{W:DW}{P:Prop}
theorem d6{m:H}{t:a5}{o:O}(h:∀t k,k≠d.gz t->m.ed t k=d.ed t k):∀t' k,k≠d.gz t'->(m.fC t (d.gz t) o).ed t' k=d.ed t' k:=λt' k q=>(dx λz=>q (by rw[z.2,z.1])).trans (h t' k q)
theorem mV{m:H}{t:a5}{o:O}(e:m.gz t=d.gz t)(h:∀t k,k≠d.gz t->m.ed t k=d.ed t k):∀t' k,k≠d.gz t'->(m.hM t o).ed t' k=d.ed t' k:=λt' k q=>(dx λz=>q (by rw[z.2,z.1,e])).trans (h t' k q)
theorem vU(kz:20<=nb)(e:nb<=32)(f:∀m,CA true 1 54 [.bs 13 (d.gz 13),.bn nb,.bn 48] (d.hM 13 (.qD [])) (.ok .bk m)->aS m (Mt.nu (d.gz 13) nb λZ=>zb)->m.gz 13=d.gz 13+1->gH [13,23,24,25] d m->(∀t k,k≠d.gz t->m.ed t k=d.ed t k)->P):P:=by
 haveI i:decide ((nb:b0)<1)=false:=dF (by omega);refine f ?m ?c ?a ?b ?g ?h
 case c=>
  apply nx mG rfl rfl;fail"%4H:8?$:8?'M'+%3('.'0%3('.'0%3";exact EX.Ed (ce:=23);fail"'.'0%3";exact EX.Ed (ce:=24);fail"'.'0%3";apply EX.ls (ce:=25);fail",0'.'0%3='.'0%3='.'0%3";exact xn;fail"'.'0%3";exact xn;fail"'.'0%3";exact xb;fail"'.'0+"
 case a=>exact⟨⟨d.gz 23,d.gz 24,d.gz 25,[],[]⟩,mx,by(repeat first |exact a4.mx |exact a4.K.aK |assumption |refine(a4.K.a_ rfl).trans ?_ |refine(a4.K.bz rfl).trans ?_),λp z=>bC z,by(repeat first |exact a4.mx |exact a4.K.aK |assumption |refine(a4.K.a_ rfl).trans ?_ |refine(a4.K.bz rfl).trans ?_),DR.iv,by(repeat first |exact a4.mx |exact a4.K.aK |assumption |refine(a4.K.a_ rfl).trans ?_ |refine(a4.K.bz rfl).trans ?_),DR.iv,e,λz=>dP z,a5.wS _,a5.wS _,a5.wS _⟩
 case b=>rfl
 case g=>exact .fC rfl (.fC rfl (.fC rfl (.fC rfl (.fC rfl (.fC rfl (.hM rfl (.fC rfl (.hM rfl (.fC rfl (.hM rfl (.fC rfl (.fC rfl (.hM rfl .hJ)))))))))))))
 case h=>exact d6 (d6 (d6 (d6 (d6 (d6 (mV rfl (d6 (mV rfl (d6 (mV rfl (d6 (d6 (mV rfl λZ Z Z=>rfl)))))))))))))
theorem C5(f:d.gz 12=g)(i:d.gz 20=g)(j:d.gz 21=g)(h:d.ed 13 g=ap (dq Z W))(k:∀m,CA true 1 41 [.bs 12 g,.bs 13 g,.bn 12] (d.hM 12 (.qD [])) (.ok .bk m)->m.ed 12 g=ap (fE g 0 0 0)->m.ed 20 g=ap (.dG [])->m.ed 21 g=ap (.di [])->(m.gz 12=g+1/\m.gz 20=g+1/\m.gz 21=g+1)->gH [12,20,21] d m->P):P:=by
 have e:(O.qD [(17,.bs 13 g),(28,.bn 12),(6,.bn 48),(48,.bs 20 (d.gz 20)),(49,.bs 21 (d.gz 21)),(50,.bn 0),(51,.bn 0),(52,.bn 0)])=fE g 0 0 0:=by rw[i,j];rfl
 rw[←e]at k;refine k ?m (G6 f ?c) ?a ?b ?Q ?e ?g
 case c=>
  apply nx k8 rfl rfl;fail"%48?'+%3('.'0%3('.'0%3&$''.'0%3";apply EX.ls (ce:=20);fail",0'.'0%3";exact EX.Ed (ce:=21);fail"'.'0%3='.'0%3='.'0%3='.'0+"
 case a=>exact Gn f mx rfl
 case b=>rw[←i];(repeat first |exact a4.mx |exact a4.K.aK |assumption |refine(a4.K.a_ rfl).trans ?_ |refine(a4.K.bz rfl).trans ?_)
 case Q=>rw[←j];(repeat first |exact a4.mx |exact a4.K.aK |assumption |refine(a4.K.a_ rfl).trans ?_ |refine(a4.K.bz rfl).trans ?_)
 case e=>exact⟨b5 (·+1) f,b5 (·+1) i,b5 (·+1) j⟩
 case g=>exact .fC rfl (.fC rfl (.fC rfl (.fC rfl (.hM rfl (.fC rfl (.hM rfl (.fC rfl (.fC rfl (.fC rfl (.hM rfl .hJ))))))))))
theorem CV(b:d.gz 17=g)(kz:20<=Z.nb)(h:d.ed 13 g=ap (dq Z W))(h2:d.ed 12 g=ap (fE g 0 0 0))(f:∀m,CA true 1 105 [.bs 17 g,.bs 12 g,.bn 2,.bn 8] (d.hM 17 (.qD [])) (.ok .bk m)->cQ m g [] 0->m.gz 17=g+1->gH [17,26,27] d m->P):P:=by
 haveI i:decide ((Z.nb:b0)<10)=false:=dF (by omega);refine f ?m (G6 b ?c) ?a ?e ?g
 case c=>
  apply Ox iZ rfl rfl;fail"%4H:8?':8?':>16E&$'$'e$M'+%3('.'0%3('.'0%3('.'0%3J)1W)AA&$''h";decide;decide;fail"'W,w'.'0%3J)&.')A&$''W,w'.'0%4B&.''?'+%3";apply EX.gV;fail"8";exact aq.Fq;fail"'J)";exact gi;fail")&.',w'.'0%4f";apply ET.oi;fail"=&.'{'&.'{'+%3";apply EX.ls (ce:=26);fail",0'.'0%3";exact EX.Ed (ce:=27);fail"'.'0%3='.'0%3='.'0+"
 case a=>exact⟨⟨d.gz 26,d.gz 27,0,[]⟩,Gn b mx rfl,by(repeat first |exact a4.mx |exact a4.K.aK |assumption |refine(a4.K.a_ rfl).trans ?_ |refine(a4.K.bz rfl).trans ?_),by(repeat first |exact a4.mx |exact a4.K.aK |assumption |refine(a4.K.a_ rfl).trans ?_ |refine(a4.K.bz rfl).trans ?_),rfl,λY=>rfl,a5.ri _⟩
 case e=>exact b5 (·+1) b
 case g=>exact .fC rfl (.fC rfl (.fC rfl (.hM rfl (.fC rfl (.hM rfl (.fC rfl (.fC rfl (.fC rfl (.fC rfl (.fC rfl (.fC rfl (.hM rfl .hJ))))))))))))
theorem An(f:d.gz 16=g)(k:d.gz 28=g){i j:a5}{cm:b0}(h:d.ed 17 g=ap (dp g i j 0 cm))(l:∀m,CA true 1 85 [.bs 16 g,.bs 17 g,.bs 14 g] (d.hM 16 (.qD [])) (.ok .bk m)->m.ed 16 g=ap (jZ g)->m.ed 28 g=ap (.di [])->(m.gz 16=g+1/\m.gz 28=g+1)->gH [16,28] d m->P):P:=by
 have e:(O.qD [(30,.bs 17 g),(81,.bs 12 g),(82,.bs 14 g),(83,.bs 28 (d.gz 28))])=jZ g:=by rw[k];rfl
 rw[←e]at l;refine l ?m (G6 f ?c) ?a ?b ?e ?g
 case c=>
  apply nx kY rfl rfl;fail"%3('.'0%3&$''.'0%3('.'0%3";exact EX.Ed (ce:=28);fail"'.'0+"
 case a=>exact Gn f mx rfl
 case b=>rw[←k];(repeat first |exact a4.mx |exact a4.K.aK |assumption |refine(a4.K.a_ rfl).trans ?_ |refine(a4.K.bz rfl).trans ?_)
 case e=>exact⟨b5 (·+1) f,b5 (·+1) k⟩
 case g=>exact .fC rfl (.hM rfl (.fC rfl (.fC rfl (.fC rfl (.hM rfl .hJ)))))
end
end Internal.K
end
section
namespace Internal
theorem rG.four{d:H}:rG [.bn 0,.bn 45,.bn 4] (0,4,12) d:=λA P s us S r E L k=>by
 obtain⟨_,_,rfl,⟨t,rfl⟩,_,_,rfl,⟨a,rfl⟩,_,_,rfl,⟨c,rfl⟩,rfl⟩:=r;haveI m:=S.h.hA (h':=s.bh.o4 {mm:=.fX "range",hy:=.j3 #[.bn 0 t,.bn 45 a,.bn 4 c]}) λb x e=>d4.e7 _ e;exact cl (call_range_3 (by decide) (k _ {s with bh:=s.bh.o4 {mm:=.fX "range",hy:=.j3 #[.bn 0 t,.bn 45 a,.bn 4 c]}} P ⟨m.1,S.r⟩ m.2 (Ey 45 _ _ _ _ rfl (IsRange.hM ..) (by decide) (by decide))) (.u0 (by decide)))
end Internal
end
section
namespace Internal.K
theorem OD:∀n,n<256->le 4 n=[cy.kP n,0,0,0]:=by decide+kernel
theorem La{n:a5}(h:n<256):((cy.kP n).fo:b0)=n:=b5 b0.kP (a5.Ik h)
def qG(ns:am a5):am a5:=ns.ah::(ns++am.f7 (11 - ns.ah) 0)
theorem vF:∀{l m:am a5},gF (l++m)=gF l++gF m:=by
 intro a
 induction a with
 |iv=>intro m;rfl
 |d2 n l b=>intro m;show le 4 n++gF (l++m)=(le 4 n++gF l)++gF m;rw[b,am.sN]
theorem y8:∀{k:a5},gF (am.f7 k 0)=am.f7 (4*k) 0:=by
 intro a
 induction a with
 |zero=>rfl
 |Fy k b=>
  show le 4 0++gF (am.f7 k 0)=am.f7 (4*(k+1)) 0;rw[b,a5.mul_succ,a5.tz,←am.replicate_append_replicate]
  congr 1
theorem JT:∀n,n<=7->48 - 4*(n+1)=4*(11 - n):=by decide
theorem zr{ns:am a5}(h:ns.ah<=7):bL ns=gF (qG ns):=by have e:(gF (ns.ah::ns)).ah=4*(ns.ah+1):=jl;show gF (ns.ah::ns)++am.f7 (48 - (gF (ns.ah::ns)).ah) 0=gF ((ns.ah::ns)++am.f7 (11 - ns.ah) 0);rw[vF,y8,e,JT _ h]
theorem zq{ns:am a5}(h:ns.ah<=7):(qG ns).ah=12:=by show(ns++am.f7 (11 - ns.ah) 0).ah+1=12;rw[am.ep,am.Fk];omega
section
variable{lp:ct}{d U:H}{q:a5}{v3 v4:V}{P:Prop}
def M3:am S:=[.as (.v 3) (.b .BitOr (.b .LShift (.v 3) (.c (.bn 8))) (.v 4))]
def M4:am S:=[.as (.v 3) (.c (.bn 0)),
 (.oX 4 (.rev (.sl (.v 0) (.v 2) (.b .s0 (.v 2) (.g (.bn 4))))) [.as (.v 3) (.b .BitOr (.b .LShift (.v 3) (.c (.bn 8))) (.v 4))]),
 (.ex (.m (.v 1) 0 [.v 3]))]
theorem vx{o:am cy}{x1:V}{p n:a5}(hn:n<256):SB true 0 [.d3 o,x1,.bn p,.bn 0,.bn n] d M3 .nx [.d3 o,x1,.bn p,.bn n,.bn n] d:=by
 have a:aP 0:=jA (by decide) (by decide);have e:=b5 (λk:a5=>V.bn (b0.kP k)) (a5.zero_or n);haveI p1:(0:b0)<=(n:b0):=b0.dv _;haveI p0:(0:b0)<=(0:b0)*2^(8:b0).fo:=by decide
 fail"%TOA1";apply au.shl;fail"$";decide;decide;rfl;apply au.lor;fail"$$";exact e;fail"K+"
theorem BU{su dL:am a5}{n:a5}{l:am V}(hn:n<256)(b:(gF (su++n::dL)).ah=48)(h:d.ed 41 q=ap (.dG l))(g:l.ah+1<=aQ):SB true 0 [.d3 (gF (su++n::dL)),.bs 41 q,.bn (4*su.ah:a5),v3,v4] d M4 .nx [.d3 (gF (su++n::dL)),.bs 41 q,.bn (4*su.ah:a5),.bn n,.bn n] (d.fC 41 q (.dG (l++[.bn n]))):=by
 have e:Iu (gF (su++n::dL)) (4*su.ah) (4*su.ah+4)=le 4 n:=by
  rw[vF];show((gF su++(le 4 n++gF dL)).m0 _).zt _=_;have a:(gF su).ah=4*su.ah:=jl;rw[←am.sN,am.Go (by rw[am.ep,a];exact a5.i3 _),am.na (by rw[am.ep,a];exact a5.i3 _),←a,am.drop_left]
 haveI i:(gF (su++n::dL)).ah<=aQ:=by rw[b];fail"0"
 have c:bInts (le 4 n).E5=[.bn 0,.bn 0,.bn 0,.bn n]:=by
  rw[OD n hn];show [V.bn _,V.bn _,V.bn _,V.bn ((cy.kP n).fo:a5)]=_;rw[La hn];rfl
 haveI j:(Iu (gF (su++n::dL)) (4*su.ah) (4*su.ah+4)).ah<=1000000:=by rw[e];show(4:a5)<=1000000;decide
 haveI f:∀x:V,(aV true 0 (λZ=>Fw) (λv vs cb=>cb=vs.fC 4 v) M3 (bInts (le 4 n).E5) [.d3 (gF (su++n::dL)),.bs 41 q,.bn (4*su.ah:a5),.bn 0,x] d .nx [.d3 (gF (su++n::dL)),.bs 41 q,.bn (4*su.ah:a5),.bn n,.bn n] d):=λx=>by
  rw[c];exact .d2 trivial rfl (vx av) (.d2 trivial rfl (vx av) (.d2 trivial rfl (vx av) (.d2 trivial rfl (vx hn) (.iv trivial))))
 fail"%9=%";apply SS.lT;apply IT.rev;fail"o(U('U16'";apply fL.d3;exact .wl rfl;exact .wl Gy;fail"$$";rw[e];exact f v4;fail"%2_(Yz$$$+"
theorem yO{l3:am a5}(f:(gF l3).ah=48)(g:∀n,n∈l3->n<256):∀{dL su:am a5} {d:H} {v2 v3 v4:V},l3=su++dL->d.ed 41 q=ap (.dG (su.hC iV))->∃a b x4 m,aV true 0 (λZ=>Fw) (λv vs cb=>cb=vs.fC 2 v) M4 ((am.range' su.ah dL.ah).hC λ(i:a5)=>V.bn (0+4*(i:b0))) [.d3 (gF l3),.bs 41 q,v2,v3,v4] d .nx [.d3 (gF l3),.bs 41 q,a,b,x4] m/\m.ed 41 q=ap (.dG (l3.hC iV))/\Fr [41] d m:=by
 intro j
 induction j with
 |iv=>
  intro su d v2 v3 v4 e h;rw[am.x6]at e;subst e;exact⟨v2,v3,v4,d,.iv trivial,h,.hJ⟩
 |d2 n dL k=>
  intro su d v2 v3 v4 e h;have hn:=g n (by rw[e];exact am.xz _ (.sk _));have l:l3.ah=12:=by have:(gF l3).ah=4*l3.ah:=jl;omega
  have lp:su.ah<=12:=by rw[e,am.ep]at l;omega
  have s1:=BU (v3:=v3) (v4:=v4) hn (e▸f) h (by rw[am.fz];exact a5.bb (a5.ic lp) av);rw[←e]at s1;obtain⟨a,b,x4,m,c,o,p⟩:=k (su:=su++[n]) (v2:=.bn (4*su.ah:a5)) (d:=d.fC 41 q (.dG (su.hC iV++[.bn n]))) (by rw[e,am.sN];rfl) (mx.trans (by rw[am.LI];rfl));rw[am.ep]at c;have r:V.bn (0+4*(su.ah:b0))=.bn ((4*su.ah:a5):b0):=b5 V.bn (by omega);refine⟨a,b,x4,m,.d2 (cb:=[.d3 (gF l3),.bs 41 q,.bn (4*su.ah:a5),v3,v4]) trivial ?_ s1 c,o,(Fr.fC rfl .hJ).trans p⟩;show _=_;rw[←r];rfl
theorem rh{l3:am a5}(c:l3.ah=12)(f:∀n,n∈l3->n<256):∃m,CA true 1 137 [.d3 (gF l3)] d (.ok (.bs 41 (d.gz 41)) m)/\m.ed 41 (d.gz 41)=ap (.dG (l3.hC iV))/\Fr [41] d m:=by
 have a:(gF l3).ah=48:=by have:(gF l3).ah=4*l3.ah:=jl;omega
 obtain⟨i,j,x4,m,b,g,h⟩:=yO (su:=[]) a f rfl aK;rw[c]at b;haveI k:(gF l3).ah<=aQ:=by rw[a];fail"0"
 have e:V.bn (((gF l3).ah:b0) - 4+1)=.bn 45:=by rw[a];rfl
 refine⟨m,?_,g,Fr.trans (.hM rfl .hJ) h⟩;apply rt kV rfl rfl;fail"%9";apply EX.ls (ce:=41);fail",0%";apply SS.lT;apply IT.er;fail")=)OAAIg$'W'6";exact e;fail")";exact gi;fail",";exact rG.four;exact b;fail"5L"
theorem sQ{ns:am a5}(a:ns.ah<=7)(c:∀n,n∈ns->n<256):∃m k,CA true 2 138 [.d3 (bL ns),.bn 7] d (.ok (.bs 42 k) m)/\m.ed 42 k=ap (.dG (ns.hC iV))/\Fr [41,42] d m:=by
 have b:=zq a;obtain⟨m,c1,h1,e⟩:=rh b λn z=>by
  rcases am.hD.mp z with rfl |z
  ·exact a5.fp a av
  ·rcases am.uf.mp z with z |z
   ·exact c n z
   ·rw[am.eq_of_mem_replicate z];fail"0"
 rw[←zr a]at c1;haveI g:((qG ns).hC iV).ah<=aQ:=by rw[am.fz,b];fail"0"
 haveI h:((qG ns).hC iV)[0]?=ap (iV ns.ah):=rfl;haveI i:((((qG ns).hC iV).ah:b0)==0)=false:=by rw[am.fz,b];rfl
 haveI j:decide ((7:b0)<ns.ah)=false:=dF (b0.to.ow (b0.sp.ow a));haveI l:decide ((((qG ns).hC iV).ah:b0)<=ns.ah)=false:=by rw[am.fz,b];exact dF (b0.Km.ow (b0.hB.ow (a5.fp a av)))
 have f:Iu ((qG ns).hC iV) 1 (1+ns.ah)=ns.hC iV:=by
  unfold Iu qG;rw[am.wL,a5.tz,am.take_succ_cons,am.drop_succ_cons,am.drop_zero,am.LI,am.Go (by rw[am.fz];exact a5.i3 _),am.na (by rw[am.fz];exact a5.i3 _)]
 refine⟨m.hM 42 (.dG (Iu ((qG ns).hC iV) 1 (1+ns.ah))),m.gz 42,?_,f▸aK,.hM rfl (e.hA rfl)⟩;apply rt mz rfl rfl;fail"%9";apply EX.Ai rfl;fail"*$'%4H:BIb$$'D$:BXS$$";decide;fail"'e$:>XS$$";decide;fail"Ib$$n$M'+5Co(U='U;=XS$$";decide;fail"6'";apply fL.dG;fail"$";exact .wl rfl;exact .wl Gy;fail"$"
end
def Ow:am S:=[.xD (.bo false [.mc .GtE (.v 3) (.a (.a (.a (.v 0) 81) 17) 53),.m (.v 0) 107 [.v 3],.mc .In (.v 3) (.sl (.v 1) .omit (.v 2))]) [.KI] []]
section
variable{lp:ct}{d U:H}{Z:Mt}{D:Oc}{q k:a5}{P:Prop}{ns:am a5}
theorem CE.dy(K:CE d Z D ns):∃W,d.ed 13 Z.g=ap (dq Z W):=K.ef λY z=>z.ef λY z=>⟨_,z.K.D.q.dy⟩
theorem yA(i:ns.ah<=7)(f:ns.p9)(j:∀n,n∈ns->10<=n/\n<Z.nb)(w:Z.nb<=32):∀{l su:am a5} {d:H} {x y:V},ns=su++l->CE d Z D []->cQ d Z.g [] 0->d.ed 42 k=ap (.dG (ns.hC iV))->
  ∃b c m,aV true 4 (λm=>m.ed 42 k=ap (.dG (ns.hC iV))) (λv vs cb=>∃ws,v=.KS ws/\ws.ah=[2,3].ah/\cb=bP [2,3] ws vs) Ow (fV su.ah (l.hC iV)) [.bs 17 Z.g,.bs 42 k,x,y] d .nx [.bs 17 Z.g,.bs 42 k,b,c] m/\Fr [43] d m:=by
 intro o
 induction o with
 |iv=>intro su d x y e K J h;exact⟨x,y,d,.iv h,.hJ⟩
 |d2 n l p=>
  intro su d x y e K J h;obtain⟨q,A⟩:=j n (by rw[e];exact am.xz _ (.sk _));haveI B:=J.q.iP;refine jn K.pu λhi re wr C=>aN K.dy λW E=>?_;haveI c1:=sT (lp:=true) J q;haveI F:decide ((Z.nb:b0)<=n)=false:=dF (by omega);haveI G:(ns.hC iV).ah<=aQ:=by rw[am.fz];exact a5.bb i av
  have r:Iu (ns.hC iV) 0 su.ah=(su.hC b0.kP).hC .bn:=by
   unfold Iu;rw[am.drop_zero,e,am.LI,am.Go (by rw[am.fz];exact a5.i3 _),am.na (by rw[am.fz];exact a5.i3 _),am.map_map];rfl
  haveI I:(d.hM 43 (.dG (Iu (ns.hC iV) 0 su.ah))).ed 43 (d.gz 43)=ap (.dG ((su.hC b0.kP).hC .bn)):=aK.trans (b5 (λl=>ap (O.dG l)) r);haveI L:(su.hC b0.kP).b6 (n:b0)=false:=ct.sA.ow λz=>by
   rw[am.fA]at z;obtain⟨m,s,t⟩:=am.JQ.mp z;obtain rfl:m=n:=b0.kP.zv t;rw[e,am.nodup_append]at f;exact f.2.2 m s m (.sk _) rfl
  have a:Fr [43] d (d.hM 43 (.dG (Iu (ns.hC iV) 0 su.ah))):=.hM rfl .hJ;obtain⟨b,c,m,g,u⟩:=p (su:=su++[n]) (x:=.bn su.ah) (by rw[e,am.sN];rfl) (K.fr a rfl rfl) (J.fr a rfl) (Fr.at a h rfl);rw[am.ep]at g;refine⟨b,c,m,.d2 h ⟨_,rfl,rfl,rfl⟩ ?_ g,a.trans u⟩;fail"%4H:>(EE&$'$'$'n$:G7$''*$'':>(o(sU('";apply fL.dG (ce:=43);fail"$";exact .u0 ⟨rfl,rfl⟩;exact .wl rfl;fail"$";apply aq.mY;fail"$$M'++"
theorem xa(e:ns.ah<=7)(i:ns.p9)(f:∀n,n∈ns->10<=n/\n<Z.nb)(t:20<=Z.nb)(j:Z.nb<=32)(l:Z.bA=[])(hh:Z.hT 2=bL ns)(K:CE d Z D [])(J:cQ d Z.g [] 0)
  (o:∀m k,CA true 5 139 [.bs 17 Z.g] d (.ok (.bs 42 k) m)->m.ed 42 k=ap (.dG (ns.hC iV))->CE m Z D []->cQ m Z.g [] 0->Fr (41::42::43::CS) d m->P):P:=by
 haveI p:=J.q.iP;refine jn K.pu λhi re wr u=>?_;refine vO (n:=2) K (by omega) (a5.ri _) (λz=>bC z) λm1 c1 q b=>?_;rw[l,show GS [] Z.hT 2=bL ns from hh]at c1;obtain⟨v,k,w,h2,c⟩:=sQ e λn z=>by have:=(f n z).2;omega
 have g:=(J.fr b rfl).fr c rfl;have h:=q.fr c rfl rfl;obtain⟨x,y,r,s,a⟩:=yA (su:=[]) e i f j rfl h g h2;refine o r k ?_ (Fr.at a h2 rfl) (h.fr a rfl rfl) (g.fr a rfl) ((b.hA rfl).trans ((c.hA rfl).trans (a.hA rfl)));apply rt fO rfl rfl;fail"%9F)m&$'$')&$',*$')&";exact(Fr.at b p rfl);fail"',*$'%|j($";exact s;fail"5L"
end
def rD(k:Oc):am a5->a5->am (a5×am cy)
 | [],_=> []
 |n::l,s=>(n,k (3+s))::rD k l (s+1)
section
variable{d U:H}{Z:Mt}{D k:Oc}{c n a i j q r s g nb:a5}{o:am cy}{P:Prop}{cm:b0}{l3:am V}{ns:am a5}
theorem qk:∀{l:am a5} {s:a5},(rD k l s).ah=l.ah:=by
 intro a
 induction a with
 |iv=>intro s;rfl
 |d2 n l b=>intro s;exact b5 (·+1) b
theorem yr:∀{l:am a5} {s:a5} {p:a5×am cy},p∈rD k l s->p.1∈l:=by
 intro a
 induction a with
 |iv=>exact λh=>bC h
 |d2 n l b=>
  intro s p h;rcases am.hD.mp h with rfl |h
  ·exact .sk _
  ·exact .sy _ (b h)
theorem BG:∀{l:am a5} {s i:a5} {k':Oc},l.p9->l[i]?=ap n->GS (rD k l s) k' n=k (3+(s+i)):=by
 intro a
 induction a with
 |iv=>intro s i k' Z h;exact dE h
 |d2 m l b=>
  intro s i k' hn h;rw[am.p5]at hn;cases i with
  |zero=>
   obtain rfl:m=n:=bS.ap.zv h;exact(dg (k:=wr k' m (k (3+s))) λp z y=>hn.1 (by have:=yr z;rwa [y]at this)).trans aW
  |Fy i=>
   have e:s+(i+1)=s+1+i:=by omega
   rw[e];exact b hn.2 h
theorem yq:∀{l:am a5} {s:a5} {Y:Mt} {d:H} {x y z:V},Y.g=g->Y.nb=nb->Y.Dq=bk->Y.bx=bk->Y.hT=k->(∀p,p∈Y.bA->10<=p.1)->20<=nb->Y.w+l.ah<=aQ->Y.bA.ah+l.ah<=aQ->CE d Y D []->d.ed 17 g=ap (dp g i j a cm)->d.ed 42 q=ap (.dG l3)->(∀n,n∈l->10<=n/\n<nb)->(∀n,(k n).ah=48)->s+l.ah<=7->
  ∃b c f m,aV true 4 (λm=>m.ed 42 q=ap (.dG l3)) (λv vs cb=>∃ws,v=.KS ws/\ws.ah=[3,4].ah/\cb=bP [3,4] ws vs) Kb (fV s (l.hC iV)) [.bs 17 g,.bs 42 q,.gg true,x,y,z] d .nx [.bs 17 g,.bs 42 q,.gg true,b,c,f] m/\CE m (oK (rD k l s) Y) D []/\Fr CS d m:=by
 intro G
 induction G with
 |iv=>
  intro s Y d x y z hg h p1 p2 r t u w A K h1 h2 Z Z Z;exact⟨_,_,_,_,.iv h2,K,.hJ⟩
 |d2 n l I=>
  intro s Y d x y z hg h p1 p2 r t u w A K h1 h2 B C hs;rw[am.o3]at w A hs;obtain⟨J,L⟩:=B n (.sk _);subst hg;refine jn K.pu λhi re wr h3=>?_;have M:3+s<Y.nb:=by omega
  refine vO K M (a5.ri _) (λz=>bC z) λm1 h4 E F=>?_;rw[r,show GS Y.bA k (3+s)=k (3+s)from dg λp z=>by have:=t p z;omega]at h4;haveI h6:=Fr.at F h1 rfl;refine jn E.pu λU W X h7=>?_;refine qV (o:=k (3+s)) E (h▸L) (a5.ri _) (λz=>bC z) (C _) (by omega) (by omega) (λN h5 O P=>?_) λN Z Q Z=>(Q.q.pw rfl p1 p2).ef;haveI hf:=F.trans P;obtain⟨b,c,f,m,R,S,T⟩:=I (s:=s+1) (Y:=Y.wrote n (k (3+s))) (x:=.bn s) (z:=.d3 (k (3+s))) rfl h p1 p2 r (λp z=>(am.uf.mp z).ef (t p) λz=>by rw[am.e0.mp z];exact J) u (by show Y.w+1+l.ah<=aQ;omega) (by show(Y.bA++[(n,k (3+s))]).ah+l.ah<=aQ;rw[am.ep,am.length_singleton];omega) O (Fr.at hf h1 rfl) (Fr.at hf h2 rfl) (λn z=>B n (.sy _ z)) C (by omega);refine⟨b,c,f,m,.d2 h2 ⟨_,rfl,rfl,rfl⟩ ?_ R,S,hf.trans T⟩;have e:V.bn (2+1+(s:b0))=.bn ((3+s:a5):b0):=b5 V.bn (by omega);fail"%9m&$'$')";apply EX.gV;fail"G('OAA&$''6'6";exact e;fail",*$'%2<&$'$''*$'+"
theorem uK(w:ns.ah<=7)(l:∀n,n∈ns->10<=n/\n<Z.nb)(o:20<=Z.nb)(x:Z.w+7<=aQ)(b:Z.bA=[])(p1:Z.Dq=bk)(p2:Z.bx=bk)(r:∀n,(Z.hT n).ah=48)(K:CE d Z D [])(h1:d.ed 17 Z.g=ap (dp Z.g i j a cm))(h2:d.ed 42 q=ap (.dG (ns.hC iV)))
  (t:∀m,CA true 5 115 [.bs 17 Z.g,.bs 42 q,.gg true] d (.ok .bk m)->CE m (wj (rD Z.hT ns 0) Z) D []->Fr CS d m->P):P:=by
 obtain⟨y,A,B,m1,u,c,e⟩:=yq (s:=0) rfl rfl p1 p2 rfl (by rw[b];exact λp z=>bC z) o (by omega) (by rw[b,am.IK];omega) K h1 h2 l r (by omega);have eg:(oK (rD Z.hT ns 0) Z).g=Z.g:=by rw[dZ]
 have v:(oK (rD Z.hT ns 0) Z).w<=aQ:=by rw[dZ];show Z.w+(rD Z.hT ns 0).ah<=aQ;rw[qk];omega
 haveI h3:=Fr.at e h1 rfl;refine jn c.pu λhi re wr h4=>?_;rw[eg]at h4;refine m_ c v (λf h5 g h=>?_) (λf h5 k h=>?_)
 ·rw[eg]at h5;rw[lJ]at g;refine t f ?_ g (e.trans h);apply nx bW rfl rfl;fail"%|j($";exact u;fail"%2<&$'$''*$'+"
 ·rw[dZ]at k;exact(k.q.pw rfl p1 p2).ef
end
structure Rec(Z Y:Mt)(ii:Oc):Prop where
 g:Y.g=Z.g
 nb:Y.nb=Z.nb
 Dq:Y.Dq=bk
 bx:Y.bx=bk
 bA:Y.bA=[]
 w:Y.w<=Z.w+8
 hd:Y.hT 2=zb
 at_:∀n,10<=n->Y.hT n=ii n
def GC:am a5:=30::31::33::34::35::36::41::42::43::CS
section
variable{d U:H}{Z:Mt}{D ii:Oc}{P:Prop}{ns:am a5}
theorem w9(S:rA Z.nb Z.hT ii ns)(f:20<=Z.nb)(F:Z.nb<=32)(W:Z.w+40<=aQ)(a:Z.bA=[])(p1:Z.Dq=bk)(p2:Z.bx=bk)(K:CE d Z D [])(J:cQ d Z.g [] 0)
  (r:∀m v Y,CA true 6 140 [.bs 17 Z.g] d (.ok v m)->Rec Z Y ii->CE m Y D []->cQ m Y.g [] 0->Fr GC d m->P):P:=by
 have X:aQ=1000000:=rfl;have G:∀n,(Z.hT n).ah=48:=λn=>by obtain⟨B,c,L⟩:=K;have:=L.K.ER n;rwa [a]at this
 haveI g1:=J.q.iP;haveI g2:d.ed 26 J.W.i=ap (.dG []):=J.q.nums;have H:cQ (d.hM 36 (.dG [])) Z.g [] 0:=J.fr (S:=[36]) (.hM rfl .hJ) rfl;have I:CE (d.hM 36 (.dG [])) Z D []:=K.fr (S:=[36]) (.hM rfl .hJ) rfl rfl;refine xa S.ER S.nd S.er f F a S.sk I H λb k c2 h2 u g M=>?_;have w:Fr GC d b:=Fr.trans (.hM rfl .hJ) (M.hA rfl);cases hn:ns with
 |iv=>
  rw[hn]at h2;have fB:Fr GC d (b.hM 36 (.dG [])):=.hM rfl w;refine r (b.hM 36 (.dG [])) (.bs 42 k) Z ?_ ⟨rfl,rfl,p1,p2,a,a5.f0 _ _,by rw[S.sk,hn];exact pv,λn h=>(S.s8 n h (by rw[hn];exact λz=>bC z)).symm⟩ (u.fr (S:=[36]) (.hM rfl .hJ) rfl rfl) (g.fr (S:=[36]) (.hM rfl .hJ) rfl) fB;apply rt dA rfl rfl;fail"%4H:B&$''e':>&$'";apply EX.ls (ce:=36);fail",0";apply aq.wH;fail"$";exact aK;fail"'M'+%97$''*$'%4>(";apply EX.ls (ce:=36);fail",0";apply aq.wH;(repeat first |exact a4.mx |exact a4.K.aK |assumption |refine(a4.K.a_ rfl).trans ?_ |refine(a4.K.bz rfl).trans ?_);fail"'+5L"
 |d2 n0 l0=>
  have zj:(!(ns.hC iV).sw)=true:=by rw[hn];rfl
  haveI x:=g.q.iP;have N:CE (b.hM 36 (.dG [])) Z D []:=u.fr (S:=[36]) (.hM rfl .hJ) rfl rfl;refine uK (q:=k) (ns:=ns) S.ER S.er f (by omega) a p1 p2 G N ((bz rfl).trans x) ((bz rfl).trans h2) λj c4 O o=>?_;have Q:j.ed 17 Z.g=_:=Fr.at o ((bz rfl).trans x) rfl;have R:CE (j.hM 36 (.dG [])) (wj (rD Z.hT ns 0) Z) D []:=O.fr (S:=[36]) (.hM rfl .hJ) rfl rfl;have T:(wj (rD Z.hT ns 0) Z).w+7<=aQ:=by show Z.w+(rD Z.hT ns 0).ah+7<=aQ;rw[qk];have:=S.ER;omega
  refine hZ (Z:=wj (rD Z.hT ns 0) Z) (l:=[]) (s:=36) (q:=j.gz 36) aK rfl (a5.ri _) (a5.ri _) (λn z=>bC z) f T rfl R ((bz rfl).trans Q) (λe c5 A C=>?_) λe t _ E _=>?_
  ·rw[lJ]at A;have U:cQ e Z.g [] 0:=((g.fr (S:=[36]) (.hM rfl .hJ) rfl).fr o rfl |>.fr (S:=[36]) (.hM rfl .hJ) rfl).fr C rfl;have V:Fr GC d e:=w.trans ((Fr.hM (S:=GC) rfl .hJ).trans ((o.hA rfl).trans ((Fr.hM (S:=GC) rfl .hJ).trans (C.hA rfl))));refine r e (.bs 42 k) (wj [(2,bL [])] (wj (rD Z.hT ns 0) Z)) ?_ ⟨rfl,rfl,p1,p2,rfl,?_,(aW:wr (wj (rD Z.hT ns 0) Z).hT 2 (bL []) 2=_).trans pv,λn h=>?_⟩ A U V
   ·apply rt dA rfl rfl;fail"%4H:B&$''e':>&$'";apply EX.ls (ce:=36);fail",0";apply aq.wH;fail"$";exact aK;fail"'M'+%97$''*$'%R>(";apply EX.ls (ce:=36);fail",0";apply aq.wH;(repeat first |exact a4.mx |exact a4.K.aK |assumption |refine(a4.K.a_ rfl).trans ?_ |refine(a4.K.bz rfl).trans ?_);fail"%2P";(repeat first |exact a4.mx |assumption |refine(a4.K.a_ rfl).trans ?_ |refine(a4.K.bz rfl).trans ?_);fail"')()";exact xb;fail",*$'%2P$')";apply EX.ls (ce:=36);fail",0,*$'+5L"
   ·show Z.w+(rD Z.hT ns 0).ah+1<=_;rw[qk];have:=S.ER;omega
   ·refine(aJ (by omega):wr (wj (rD Z.hT ns 0) Z).hT 2 (bL []) n=_).trans ?_;show GS (Z.bA++rD Z.hT ns 0) Z.hT n=_;rw[a];by_cases z:n∈ns
    ·obtain⟨i,hi⟩:=am.getElem?_of_mem z;exact(BG S.nd hi).trans (by rw[a5.pt];exact(S.log i n hi).symm)
    ·exact(dg λp q y=>z (by have:=yr q;rwa [y]at this)).trans (S.s8 n h z).symm
  ·rw[dZ]at E;exact(E.q.pw rfl p1 p2).ef
end
def My:am a5:=14::16::17::26::27::28::GC
structure tv(d:H)(g:a5):Prop where
 Kt:d.gz 12=g
 Md:d.gz 14=g
 Mc:d.gz 16=g
 Ks:d.gz 17=g
 Mb:d.gz 20=g
 Ma:d.gz 21=g
 L_:d.gz 28=g
 xj:d.gz 11=d.gz 22
theorem GP{lp:ct}{Q t g eo:a5}{vs ws:am V}{d U ay:H}{es:am X}(a:EL lp Q vs d es (.ok ws U))(hi:sr.eh t=ap eo)(b:U.gz t=g)(c:CA lp Q eo (.bs t g::ws) (U.hM t (.qD [])) (.ok .bk ay)):EX lp Q vs d (.k t es) (.ok (.bs t g) ay):=by subst b;exact xk a hi c
section
variable{d U:H}{Z Y:Mt}{D ii:Oc}{P:Prop}{ns:am a5}
theorem Rec.op(R:Rec Z Y ii)(K:CE d Y D [])(J:cQ d Y.g [] 0)(X:Fix d Y):Op d Y ii [] 0:=by obtain⟨B,c,L⟩:=K;exact⟨B,c,⟨L.K,J,R.bA,λn b h=>(L.LM n b h λz=>bC z).2,λn h=>bC h⟩,L.j2,λn h=>(L.d0 λz=>bC z).trans (by rw[R.bA];exact R.at_ n h),X,.iv⟩
theorem CE.nu{B:a5->bS Bf}(a:aS d Z)(hd:Z.dead=false)(b:Z.bA=[])(c:∀n,(Z.hT n).ah=48)(k1:d.ed 12 Z.g=ap (fE Z.g 0 0 0))(k2:d.ed 20 Z.g=ap (.dG []))(k3:d.ed 21 Z.g=ap (.di []))(hb:d.gz 11=d.gz 22):CE d Z D []:=
 ⟨λY=>bk,d.gz 11,⟨⟨⟨0,0,0,[],[]⟩,k1,k3,mi.iv,λY=>rfl,k2,rfl,.iv,λY h=>bC h,λY Y h=>dE h,λY Y h=>dE h,rfl,hb.symm⟩,a,hd,λY Y h=>dE h,λY Y h=>dE h,by rw[b];exact c⟩,λY h=>bC h,λY Y h=>dE h⟩
theorem pO(g:aS d Z)(w:Z.bA=[])(hd:Z.dead=false)(p1:Z.Dq=bk)(p2:Z.bx=bk)(G:∀n,(Z.hT n).ah=48)(kz:20<=Z.nb)(x:Z.nb<=32)(H:Z.w+40<=aQ)(S:rA Z.nb Z.hT ii ns)(T:tv d Z.g)
  (I:∀m Y,CA true 8 141 [.bs 13 Z.g] d (.ok (.bs 16 Z.g) m)->Rec Z Y ii->Op m Y ii [] 0->m.ed 28 Z.g=ap (.di [])->tv m (Z.g+1)->m.gz 13=d.gz 13->gH My d m->P):P:=by
 haveI J:=g.q.dy;refine C5 T.Kt T.Mb T.Ma J λm1 c1 h1 h2 h3 s i=>?_;have D1:aS m1 Z:=⟨g.W,i.at g.q.dy rfl,i.at g.q.bA rfl,g.q.er,i.at g.q.hT rfl,g.q.kr,i.at g.q.oU rfl,g.q.lr,g.q.nb,g.q.pw,by rw[(i 13 rfl).2,(i 23 rfl).2,(i 25 rfl).2];exact g.q.bd⟩;refine CV ((i 17 rfl).2.trans T.Ks) kz D1.q.dy h1 λt c2 y K f=>?_;have M:aS t Z:=⟨D1.W,f.at D1.q.dy rfl,f.at D1.q.bA rfl,D1.q.er,f.at D1.q.hT rfl,D1.q.kr,f.at D1.q.oU rfl,D1.q.lr,D1.q.nb,D1.q.pw,by rw[(f 13 rfl).2,(f 23 rfl).2,(f 25 rfl).2];exact D1.q.bd⟩;have p:gH (12::20::21::[17,26,27]) d t:=(i.hA rfl).trans (f.hA rfl);have N:CE t Z ii []:=CE.nu (B:=λ_=>bk) M hd w G (f.at h1 rfl) (f.at h2 rfl) (f.at h3 rfl) ((p 11 rfl).2.trans (T.xj.trans (p 22 rfl).2.symm));refine w9 S kz x H w p1 p2 N y λq v Y c3 R z l j=>?_;have eg:=R.g;have O:gH My d q:=(p.hA rfl).trans (j.z.hA rfl);have r:q.gz 14=Z.g:=(j.mQ 14 rfl).trans ((p 14 rfl).2.trans T.Md);have A:=(j.mQ 16 rfl).trans ((p 16 rfl).2.trans T.Mc);have Q:=(j.mQ 28 rfl).trans ((p 28 rfl).2.trans T.L_);haveI c4:=G6 r (rg (lp:=true) kz x);obtain⟨W3,D⟩:∃W:JW,q.ed 17 Y.g=ap (dp Y.g W.i W.j 0 W.cm):=⟨_,l.q.iP⟩;rw[eg]at D;haveI g2:=y.q.iP;obtain⟨U,E⟩:=z.dy;rw[eg]at E;refine An (d:=q.hM 14 (oR Z.nb)) A Q ((bz rfl).trans D) λo c5 X n2 F u=>?_;have a:gH [14,16,28] q o:=gH.trans (.hM rfl .hJ) (u.hA rfl);have hs:o.ed 14 Z.g=ap (oR Z.nb):=u.at (Gn r aK rfl) rfl;have K4:CE o Y ii []:=by
  obtain⟨B,c,L⟩:=z;have C:=L.K.C.q;have k:=L.K.D.q;have D4:aS o Y:=⟨L.K.D.W,a.at k.dy rfl,a.at k.bA rfl,k.er,a.at k.hT rfl,k.kr,a.at k.oU rfl,k.lr,k.nb,k.pw,by rw[(a 13 rfl).2,(a 23 rfl).2,(a 25 rfl).2];exact k.bd⟩;have C4:cR o Y.g B c:=⟨L.K.C.W,a.at C.pu rfl,a.at C.BT rfl,C.key,C.LL,a.at C.row rfl,C.qj,C.tx,C.DE,C.r9,λn b h=>⟨a.at (C.buf n b h).1 rfl,a.at (C.buf n b h).2.1 rfl,(C.buf n b h).2.2⟩,(a 11 rfl).2.trans C.uO,(a 22 rfl).2.trans C.rF⟩;exact⟨B,c,⟨C4,D4,L.K.qE,L.K.cl,L.K.er,L.K.ER⟩,L.pin,L.LM⟩
 have J4:cQ o Y.g [] 0:=⟨l.W,a.at l.q.iP rfl,a.at l.q.nums rfl,a.at l.q.yM rfl,l.q.BX,l.q.JZ,l.q.ER⟩;have X4:Fix o Y:=⟨by rw[eg];exact X,by rw[eg,R.nb];exact hs,R.hd,by rw[R.nb];exact kz⟩;refine I o Y ?_ R (R.op K4 J4 X4) n2 ⟨?_,?_,F.1,?_,?_,?_,F.2,?_⟩ ?_ (O.trans (a.hA rfl))
 ·haveI g6:(wB (dq Y U) 53)=ap (.bn Z.nb):=b5 (λn:a5=>ap (V.bn n)) R.nb;apply rt jF rfl rfl;fail"%9";apply GP;fail")";apply GP;fail")()=,'";exact T.Kt;fail"*$')=)=,'";exact((i 17 rfl).2.trans T.Ks);fail"*$'%27$''*$'5C";apply GP;fail")()";apply GP;fail")=)&";exact E;exact g6;fail")=)=)=,'";exact r;fail"*$','";exact A;fail"*$'"
 ·exact(a 12 rfl).2.trans ((j.mQ 12 rfl).trans ((f 12 rfl).2.trans s.1))
 ·exact(u 14 rfl).2.trans (b5 (·+1) r)
 ·exact(a 17 rfl).2.trans ((j.mQ 17 rfl).trans K)
 ·exact(a 20 rfl).2.trans ((j.mQ 20 rfl).trans ((f 20 rfl).2.trans s.2.1))
 ·exact(a 21 rfl).2.trans ((j.mQ 21 rfl).trans ((f 21 rfl).2.trans s.2.2))
 ·rw[(a 11 rfl).2,(a 22 rfl).2];have e:=j.xj;rw[(f 11 rfl).2,(i 11 rfl).2,(f 22 rfl).2,(i 22 rfl).2,T.xj]at e;exact a5.add_right_cancel e
 ·exact(a 13 rfl).2.trans ((j.mQ 13 rfl).trans (p 13 rfl).2)
end
def jD(q p:a5):O:=.qD [(19,.J6 ("node" :h9).cps.q6),(21,.gg false),(22,.gg true),(23,.bn 1),(24,.bn p),(25,.bk),(26,.bs 15 q),(27,.bn 0)]
def Bd(g k:a5):O:=.qD [(28,.bn 4),(15,.bs 7 0),(29,.bs 16 g),(30,.bs 17 g),(31,.bs 44 0),(32,.bn 48),(33,.bs 43 k)]
abbrev oF(l:am cy):a5->cy:=ins (λZ=>0) 0 l
structure tD(D:Oc)(Io:ct)(c:a5)(l:am cy):Prop where
 B:Ew D c (oF l)
 row:D 10=Ca 2 1 l.ah (pX 0 c) (pX 1 c) (pX 2 c)
 CO:l.ah<=48*c
 low:48*c<l.ah+48
 sec:Io=true->D 11=eR zb 0 2 1 0 0 0 0
def Be:am a5:=9::15::29::gI
section
variable{d U:H}{Z Y:Mt}{D D':Oc}{Io:ct}{c q j k f g:a5}{hh:b0}{l o:am cy}{P:Prop}
theorem tD.congr(X:tD D Io c l)(h:∀n,10<=n->D' n=D n):tD D' Io c l:=by
 refine⟨⟨(h 12 av).trans X.B.bit,λz=>(h 15 av).trans (X.B.nm z),λi z=>(h _ ?_).trans (X.B.b i z),X.B.z,X.B.le,?_⟩,(h 10 av).trans X.row,X.CO,X.low,λz=>(h 11 av).trans (X.sec z)⟩
 ·exact a5.ft (ma i).2.2.2.2
 ·rw[h 10 av];exact X.B.row
theorem Fc:ins (oF l) l.ah o=oF (l++o):=by
 have:=vJ (f:=λZ=>0) (s:=0) (l:=l) (m:=o)
 rwa [a5.pt]at this
theorem yH(O:Op d Z D [] 0)(X:tD D Io c l)(N:dO d Z.g 1 q hh 2 1 l.ah (pX 0 c) (pX 1 c) (pX 2 c) j)(hf:d.ed 9 f=ap (jD q l.ah))(ht:d.ed 10 0=ap (Bd Z.g k))(h0:0<o.ah)(A:o.ah<=48)(B:l.ah+o.ah<=336)(hb:∀i,48*i<l.ah+o.ah->gG i<Z.nb)(C:Z.w+40<=aQ)
  (u:∀m D' g b,CA true 13 30 [.bs 10 0,.bs 9 f,.d3 o] d (.ok (.bn o.ah) m)->g.ah<=7->Op m (Z4 D' g Z) D' [] 0->tD D' Io b (l++o)->dO m Z.g 1 q hh 2 1 (l++o).ah (pX 0 b) (pX 1 b) (pX 2 b) j->m.ed 9 f=ap (jD q (l++o).ah)->m.ed 10 0=ap (Bd Z.g k)->Fr Be d m->P)
  (E:∀m Y D' b,CA true 13 30 [.bs 10 0,.bs 9 f,.d3 o] d (.exc 5 m)->aS m Y->GK Z D' Y->tD D' Io b (l++o)->m.ed 9 f=ap (jD q l.ah)->Fr Be d m->P):P:=by
 haveI Q:=ht;haveI R:=O.j;refine vv (lp:=true) O λm1 c1 v p=>?_;have r:=N.fr p rfl;have F:FW m1 Z D [] 1 q j hh 2 1 l.ah c (oF l):=⟨v,r,X.B⟩;refine yI (py:=l.ah) F (a5.ri _) X.CO X.CO h0 A B X.low hb (.u0 rfl) λw D' g b H a=>?_;have I:(if l.ah<l.ah+o.ah then l.ah+o.ah else l.ah)=(l++o).ah:=by rw[et (a5.wO h0),am.ep]
 rw[I,Fc]at a;haveI S:=Lb v.ob H r.K1;have x:tD D' Io b (l++o):=⟨a.W.B,a.row,a.CO,a.low,λz=>a.DG.trans (X.sec z)⟩;have J:g.ah<=7:=a5.bb a.ER av;haveI T:=Fr.at p hf rfl;haveI U:=r.K1;have s:Fr (15::29::gI) d w:=(p.hA rfl).trans a.fr;haveI V:w.ed 10 0=ap (Bd Z.g k):=Fr.at s ht rfl;haveI W:=a.W.O.j;refine DI a.W.O a.has C (λh K L n=>?_) (λh Y K M G n=>?_)
 ·have e:=s.trans (n.hA rfl);haveI w3:=Fr.at e hf rfl;have t:Fr [9] h (h.fC 9 f (jD q (l.ah+o.ah))):=.fC rfl .hJ;rw[am.ep]at u;refine u (h.fC 9 f (jD q (l.ah+o.ah))) D' g b ?_ J (L.fr t rfl) x ?_ mx (Fr.at t (Fr.at e ht rfl) rfl) ((e.hA rfl).trans (.fC rfl .hJ))
  ·apply rt b8 rfl rfl;fail"%2<&$'$''*$'%";apply SS.xZ;fail"%9m&$'$')&$')(,*$'+%2<&$'$''*$'%a($'(d$'05L"
  ·have y:=(a.W.N.fr n rfl).fr t rfl;rw[am.ep]at y;exact y
 ·have e:=s.trans (n.hA rfl);refine E h Y D' b ?_ M G x (Fr.at e hf rfl) (e.hA rfl);apply ex b8 rfl rfl;fail"%2<&$'$''*$'%";apply SS.xZ;fail"%9m&$'$')&$')(,*$'+Q]<&$'$''*$'"
theorem CR{ns:am a5}{a:a5}(O:Op d Z D ns a)(h:d.ed 10 0=ap (Bd Z.g k)):CA true 1 28 [.bs 10 0] d (.ok (.bn 48) d):=by refine f_ O λB c z=>?_;haveI b:=z.F.J.q.iP;haveI e:aP (if(1:b0)<(7 - 4)/2 then(7 - 4)/2 else 1):=jA (by decide) (by decide);refine CA.vl ?_ rfl;apply rt fP rfl rfl;fail"5C;J)=)OAAE&$'$''W'h";decide;decide;fail"',";exact bJ.max;fail"&$'Z$"
end
structure TW(d:H)(Z:Mt)(D:Oc)(Io:ct)(c q j f k:a5)(hh:b0)(l:am cy):Prop where
 O:Op d Z D [] 0
 X:tD D Io c l
 N:dO d Z.g 1 q hh 2 1 l.ah (pX 0 c) (pX 1 c) (pX 2 c) j
 hf:d.ed 9 f=ap (jD q l.ah)
 ht:d.ed 10 0=ap (Bd Z.g k)
structure Nx(Z Z':Mt)(n:a5):Prop where
 g:Z'.g=Z.g
 nb:Z'.nb=Z.nb
 Dq:Z'.Dq=Z.Dq
 bx:Z'.bx=Z.bx
 w:Z'.w<=Z.w+16*n
structure Off(m:H)(g nb:a5)(ad LF:bS a5)(Y:Mt)(Io:ct)(q f:a5)(l o:am cy)(i:a5):Prop where
 D:aS m Y
 D9:Y.nb=nb
 eg:Y.g=g
 G3:Y.bA.ah<=7
 pw:ad=bk->LF=bk->uk
 lt:48*i<o.ah
 hf:m.ed 9 f=ap (jD q (l.ah+48*i))
 yp:∀r,r.GT Y.bA->(∃V N c t,rA nb (GS r Y.hT) V N/\tD V Io c (l++o.m0 t)/\(t=48*i\/t=48*(i+1)))/\∀n,(GS r Y.hT n).ah=48
def LU:X:=.mc .Lt (.v 3) (.bi 0 [.v 2])
def Ko:am S:=[.as (.v 4) (.sl (.v 2) (.v 3) (.b .s0 (.v 3) (.m (.v 0) 44 []))),
 (.as (.v 5) (.m (.v 0) 45 [.v 1,.v 4])),
 (.ag 3 .s0 (.v 5)),
 (.xD (.mc .Lt (.v 5) (.bi 0 [.v 4])) [.br] [])]
section
variable{d U:H}{Z Y:Mt}{D D':Oc}{Io:ct}{c q j k f g nb i:a5}{hh:b0}{l o p:am cy}{P:Prop}{x4 x5:V}{ad LF:bS a5}
theorem qJ(h:o.ah<=300){dn:a5}:ET true 13 [.bs 10 0,.bs 9 f,.d3 o,.bn dn,x4,x5] d LU (.ok (decide ((dn:b0)<o.ah)) d):=by haveI a:o.ah<=aQ:=a5.bb h av;fail">(Ig$?"
theorem wi(h:48*i<o.ah):o.m0 (48*i)++Iu o (48*i) (48*i+48)=o.m0 (48*(i+1)):=by
 rw[show 48*(i+1)=48*i+48 by omega];have:=am.take_append_drop (48*i) (o.m0 (48*i+48))
 rwa [am.take_take,a5.ux (a5.f0 _ _)]at this
theorem nH{i n:a5}(h:48*i<n):0<min (48*i+48) n - 48*i/\min (48*i+48) n - 48*i<=48/\48*i+(min (48*i+48) n - 48*i)<=n:=by omega
theorem Hn{w n k:a5}(h:w+16*n+40<=k):w+40<=k:=by omega
theorem EJ{w n k m:a5}(h:w+16*(n+1)+40<=k)(a:m<=7):w+(2*m+2)+16*n+40<=k:=by omega
theorem Ho{a w n m:a5}(h:a<=w+(2*m+2)+16*n)(b:m<=7):a<=w+16*(n+1):=by omega
theorem IF(h:o.ah<=300)(c0:CA true 1 28 [.bs 10 0] d (.ok (.bn 48) d))(h1:d.ed 10 0=ap (Bd g k))(a:Iu o (48*i) (48*i+48)=p)(b:p.ah<=48)(c1:CA true 13 30 [.bs 10 0,.bs 9 f,.d3 p] d (.ok (.bn p.ah) U)):SB true 13 [.bs 10 0,.bs 9 f,.d3 o,.bn (48*i:a5),x4,x5] d Ko .nx [.bs 10 0,.bs 9 f,.d3 o,.bn (48*i+p.ah:a5),.d3 p,.bn p.ah] U:=by haveI c:o.ah<=aQ:=a5.bb h av;subst a;haveI e:(Iu o (48*i) (48*i+48)).ah<=aQ:=a5.bb b av;haveI j:decide (((Iu o (48*i) (48*i+48)).ah:b0)<(Iu o (48*i) (48*i+48)).ah)=false:=dF (b0.q5 _);fail"%9o(U('U;(7$''*$'6'";apply fL.d3;exact .wl rfl;exact .wl Gy;fail"$%97$''*$'%";apply SS.ag;fail"'(d%4>(Ig$?$++"
theorem IG(h:o.ah<=300)(c0:CA true 1 28 [.bs 10 0] d (.ok (.bn 48) d))(h1:d.ed 10 0=ap (Bd g k))(a:Iu o (48*i) (48*i+48)=p)(c1:CA true 13 30 [.bs 10 0,.bs 9 f,.d3 p] d (.exc 5 U)):SB true 13 [.bs 10 0,.bs 9 f,.d3 o,.bn (48*i:a5),x4,x5] d Ko (.ex 5) [.bs 10 0,.bs 9 f,.d3 o,.bn (48*i:a5),.d3 p,x5] U:=by haveI b:o.ah<=aQ:=a5.bb h av;subst a;fail"%9o(U('U;(7$''*$'6'";apply fL.d3;exact .wl rfl;exact .wl Gy;fail"$Q";apply SS.PA;fail"7$''*$'"
theorem Cq(s:o.ah<=300)(qH:l.ah+o.ah<=336)(hb:∀i,48*i<l.ah+o.ah->gG i<nb):∀{n i:a5} {Z:Mt} {D:Oc} {c:a5} {d:H} {x4 x5:V},Z.nb=nb->Z.g=g->Z.Dq=ad->Z.bx=LF->o.ah<=48*(i+n)->Z.w+16*n+40<=aQ->TW d Z D Io c q j f k hh (l++o.m0 (48*i))->
  (∀m x D' y u B C,jw true 13 LU Ko u [.bs 10 0,.bs 9 f,.d3 o,.bn (o.m0 (48*i)).ah,x4,x5] d .nx [.bs 10 0,.bs 9 f,.d3 o,.bn o.ah,B,C] m->Nx Z x n->TW m x D' Io y q j f k hh (l++o)->Fr Be d m->P)->
  (∀m Y E u aL,jw true 13 LU Ko u [.bs 10 0,.bs 9 f,.d3 o,.bn (o.m0 (48*i)).ah,x4,x5] d (.ex 5) aL m->Off m g nb ad LF Y Io q f l o E->Fr Be d m->P)->P:=by
 intro aH
 induction aH with
 |zero=>
  intro i Z D c d x4 x5 t hg F I hn J T a b;rw[am.na (show o.ah<=48*i from hn)]at T a b;exact a d Z D c 0 x4 x5 (.fin (qJ s) (dF (b0.q5 _))) ⟨rfl,rfl,rfl,rfl,a5.f0 _ _⟩ T .hJ
 |Fy n ih=>
  intro i Z D c d x4 x5 t hg F I hn J T a b;by_cases h:48*i<o.ah
  ·have lt:(o.m0 (48*i)).ah=48*i:=by rw[am.w1];exact a5.ux (a5.l6 h)
   generalize z:Iu o (48*i) (48*i+48)=p;have K:p.ah=min (48*i+48) o.ah - 48*i:=by rw[←z];unfold Iu;rw[am.Kc,am.w1]
   have p0:=K▸(nH h).1;have R:p.ah<=48:=K▸(nH h).2.1;have Ov:48*i+p.ah<=o.ah:=K▸(nH h).2.2;have U:(l++o.m0 (48*i)).ah+p.ah<=l.ah+o.ah:=by rw[am.ep,am.w1,a5.ux (a5.l6 h),a5.t0];exact a5.kQ Ov _
   have L:o.m0 (48*i)++p=o.m0 (48*(i+1)):=by rw[←z];exact wi h
   have l1:(l++o.m0 (48*i)).ah=l.ah+48*i:=by rw[am.ep,lt]
   haveI c0:=CR T.O T.ht;subst hg;refine yH T.O T.X T.N T.hf T.ht p0 R (a5.bb U qH) (λi hi=>t▸hb i (a5.ew hi U)) (Hn J) (λm D' dH y c1 W O1 v X w t1 A=>?_) (λm Y D' y c1 D1 G v w A=>?_)
   ·rw[am.sN,L]at v X w;refine ih (i:=i+1) (Z:=Z4 D' dH Z) (x4:=.d3 p) (x5:=.bn p.ah) t rfl F I (a5.bb hn (a5.mZ (b5 (48*·) (a5.AC i n 1)))) (by rw[Gz];exact EJ J W) ⟨O1,v,X,w,t1⟩ (λM x D2 c2 u B C O x1 T1 Q=>?_) (λM Y E u aL O f2 Q=>?_)
    all_goals
     have e:(o.m0 (48*(i+1))).ah=48*i+p.ah:=by rw[←L,am.ep,lt]
     rw[e]at O;rw[lt]at a b;have g0:=jw.gt (qJ s) (dT (b0.hB.ow h)) (IF (x4:=x4) (x5:=x5) s c0 T.ht z R c1) O
    ·exact a M x D2 c2 _ B C g0 ⟨x1.g,x1.nb,x1.Dq,x1.bx,by have:=x1.w;rw[Gz]at this;exact Ho this W⟩ T1 (A.trans Q)
    ·exact b M Y E _ aL g0 f2 (A.trans Q)
   ·rw[am.sN,L]at v;rw[lt]at b;rw[l1]at w;refine b m Y i _ _ (jw.G4 (qJ (x4:=x4) s) (dT (b0.hB.ow h)) (IG (x5:=x5) s c0 T.ht z c1)) ⟨D1,G.nb.trans t,G.g,G.G3,λz1 z2=>D1.q.pw G.dead (G.Dq.trans (F.trans z1)) (G.bx.trans (I.trans z2)),h,w,λr hr=>⟨?_,(G.MS r hr).2⟩⟩ A;obtain⟨N,S |S⟩:=(G.MS r hr).1
    ·exact⟨Z.hT,N,c,48*i,t▸S,T.X.congr λn h=>T.O.s8 h,.u0 rfl⟩
    ·exact⟨D',N,y,48*(i+1),t▸S,v,.wl rfl⟩
  ·rw[am.na (a5.Fa h)]at T a b;exact a d Z D c 0 x4 x5 (.fin (qJ s) (dF (b0.q5 _))) ⟨rfl,rfl,rfl,rfl,a5.f0 _ _⟩ T .hJ
end
end Internal.K
end
section
namespace Internal
theorem EX.KV{lp:ct}{Q c:a5}{vs:am V}{d U:H}{x y:X}(b:EX lp Q vs d x (.exc c U)):EX lp Q vs d (.s x y) (.exc c U):=λC e h A u P s a=>by
 refine ar (aj h) λp f q=>?_;subst f;exact aC.Jj (b C p.1 (ao (ai q)) A u P s a)
end Internal
end
section
namespace Internal.K
section
variable{d:H}{Z:Mt}{D:Oc}{Io:ct}{c q j k f g nb:a5}{hh:b0}{l o:am cy}{P:Prop}
theorem As(p:o.ah<=300)(r:l.ah+o.ah<=336)(hb:∀i,48*i<l.ah+o.ah->gG i<Z.nb)(a:Z.w+200<=aQ)(T:TW d Z D Io c q j f k hh l)
  (s:∀m b D' e,CA true 14 29 [.bs 10 0,.bs 9 f,.d3 o] d (.ok (.KS [.bn o.ah,.bn 0]) m)->Nx Z b 7->TW m b D' Io e q j f k hh (l++o)->Fr Be d m->P)
  (t:∀m Y i,CA true 14 29 [.bs 10 0,.bs 9 f,.d3 o] d (.exc 5 m)->Off m Z.g Z.nb Z.Dq Z.bx Y Io q f l o i->Fr Be d m->P):P:=by
 haveI x:=T.hf;refine Cq (g:=Z.g) (nb:=Z.nb) (l:=l) (o:=o) (n:=7) (i:=0) (x4:=.i1) (x5:=.i1) p r hb rfl rfl rfl rfl (by omega) (by omega) (by rw[a5.mul_zero,am.take_zero,am.x6];exact T) (λm b D' e u y z a x1 v h=>?_) (λm Y i u aL a w h=>?_)
 ·refine s m b D' e ?_ x1 v h;apply rt dB rfl rfl;fail"%4fG&$''+%4B&$''";exact aq.Kq;fail"'+%4B&$''";exact aq.Kq;fail"'+%";apply SS.Jl rfl;fail"%";apply SS.vg;exact a;fail"5C";apply EX.JM rfl;fail"0"
 ·refine t m Y i ?_ w h;apply ex dB rfl rfl;fail"%4fG&$''+%4B&$''";exact aq.Kq;fail"'+%4B&$''";exact aq.Kq;fail"'+%";apply SS.Jl rfl;fail"Q";exact SS.wh a
theorem pM(g:o.ah<=300)(h:l.ah+o.ah<=336)(hb:∀i,48*i<l.ah+o.ah->gG i<Z.nb)(n:Z.w+200<=aQ)(T:TW d Z D Io c q j f k hh l)
  (p:∀m a D' b,CA true 15 142 [.bs 10 0,.bs 9 f,.d3 o] d (.ok (.bn o.ah) m)->Nx Z a 7->TW m a D' Io b q j f k hh (l++o)->Fr Be d m->P)
  (r:∀m Y i,CA true 15 142 [.bs 10 0,.bs 9 f,.d3 o] d (.ok .bk m)->Off m Z.g Z.nb Z.Dq Z.bx Y Io q f l o i->Fr Be d m->P):P:=by
 haveI u:=T.ht;refine As g h hb n T (λm a D' b c1 x1 s e=>?_) (λm Y i c1 t e=>?_)
 ·refine p m a D' b ?_ x1 s e;apply rt gj rfl rfl;fail"5";apply SS.Hq;fail"5CV7$''*$''";exact bD.KS (i:=0) rfl av
 ·refine r m Y i ?_ t e;apply rt gj rfl rfl;fail"5";apply KQ;fail"Q";apply SS.Ou;apply EX.KV;fail"7$''*$'";exact xn
theorem uH(b:o.ah<=300)(e:l.ah+o.ah<=336)(hb:∀i,48*i<l.ah+o.ah->gG i<Z.nb)(g:Z.w+200<=aQ)(p1:Z.Dq=bk)(p2:Z.bx=bk)(T:TW d Z D Io c q j f k hh l)
  (h:∀m a D' n,CA true 15 142 [.bs 10 0,.bs 9 f,.d3 o] d (.ok (.bn o.ah) m)->Nx Z a 7->TW m a D' Io n q j f k hh (l++o)->Fr Be d m->P):P:=pM b e hb g T h λY Y Y Y p Y=>(p.pw p1 p2).ef
end
def MJ(Z:Mt)(D:Oc)(I:a5):Prop:=∀m1,Op m1 Z D [] 1->m1.ed 28 Z.g=ap (.di [])->∃m q j,CA true 6 89 [.bs 16 Z.g,.bn 2] m1 (.ok (.bs 15 q) m)/\Op m Z (wr D (10+I/2) (eR (D (10+I/2)) (I % 2*24) 2 0 0 0 0 0)) (aY [] (10+I/2)) 1/\dO m Z.g I q 1 2 0 0 0 0 0 j/\m.ed 28 Z.g=ap (.di [((I:b0),.bs 15 q)])/\Fr xt m1 m
section
variable{d:H}{Z:Mt}{D:Oc}{I:a5}{P:Prop}
theorem Mn(R:dK (D 10) 24 0 0 0 0 0 0):MJ Z D 1:=λm1 O ht=>AE O R ht λm q j a b c Q e=>⟨m,q,j,a,b,c,Q,e⟩
theorem Mm(d:dK (D 10) 24 2 1 0 0 0 0)(R:dK (D 11) 0 0 0 0 0 0 0):MJ Z D 2:=λm1 O ht=>AD O d R ht λm q j a b c Q e=>⟨m,q,j,a,b,c,Q,e⟩
theorem Ap(v:I<=3)(O:Op d Z D [] 0)(ht:d.ed 28 Z.g=ap (.di []))(w:Z.w+40<=aQ)(p1:Z.Dq=bk)(p2:Z.bx=bk)(al:MJ Z D I)
  (x:∀m k D',CA true 9 117 [.bs 16 Z.g] d (.ok (.bn I) m)->Nx Z k 1->Op m k D' [] 0->D' (10+I/2)=eR (eR (D (10+I/2)) (I % 2*24) 2 0 0 0 0 0) (I % 2*24) 2 1 0 0 0 0->(∀n,n≠10+I/2->D' n=D n)->m.ed 28 Z.g=ap (.di [])->Fr xt d m->P):P:=by
 haveI H:=O.ob;haveI J:=O.j;refine vv (lp:=true) O λm1 c1 l o=>?_;haveI K:=l.ob;obtain⟨b,q,j,L,y,p,z,A⟩:=al m1 l (Fr.at o ht rfl);have r:Fr [15] b (b.fC 15 q (bg Z.g I j 1 2 1 0)):=.fC rfl .hJ;have s:=y.fr r rfl;have c:dO (b.fC 15 q (bg Z.g I j 1 2 1 0)) Z.g I q 1 2 1 0 0 0 0 j:=⟨mx,(a_ rfl).trans p.pl⟩;have t:(aY [] (10+I/2)).ah<=6:=a5.bb (bQ _ _) av;haveI M:=p.K1;haveI N:=s.ob;haveI Q:=c.K1;refine kL s t v c λa R e f=>?_;have S:CA true 5 82 [.bs 15 q] (b.fC 15 q (bg Z.g I j 1 2 1 0)) (.ok .bk a):=by
  apply nx jG rfl rfl;fail"%2<&$'$''*$'+"
 haveI B:=c.fr f rfl;have C:a.ed 28 Z.g=ap (.di [((I:b0),.bs 15 q)]):=Fr.at f ((a_ rfl).trans z) rfl;haveI T:=CU (lp:=true) e.x C B.K1;haveI U:=e.ob;have u:Fr [15,28] a ((a.fC 28 Z.g (.di [])).fC 15 q (bg Z.g I j 0 2 1 0)):=.fC rfl (.fC rfl .hJ);have g:=e.fr u rfl;haveI V:=g.ob;haveI W:=g.j;haveI E:((a.fC 28 Z.g (.di [])).fC 15 q (bg Z.g I j 0 2 1 0)).ed 15 q=ap (bg Z.g I j 0 2 1 0):=mx;refine E_ g rz w p1 p2 λF X G i=>?_;haveI Y:=Fr.at i E rfl;have l2:(aY (aY [] (10+I/2)) (10+I/2)).ah<=7:=a5.bb (bQ _ _) (a5.ic t);refine x F (Z4 _ _ Z) _ ?_ ⟨rfl,rfl,rfl,rfl,?_⟩ G (aW.trans (by rw[aW])) (λn h=>(aJ h).trans (aJ h)) (Fr.at i ((a_ rfl).trans mx) rfl) ((o.hA rfl).trans (A.trans ((r.hA rfl).trans ((f.hA rfl).trans ((u.hA rfl).trans (i.hA rfl))))))
 ·apply rt n6 rfl rfl;fail"%2<&$'$''*$'%97$''*$'%3='$'0%27$''*$'%27$''*$'%2<&$'$''*$'5C&$'"
 ·rw[Gz];have:(aY (aY [] (10+I/2)) (10+I/2)).ah<=2:=a5.bb (bQ _ _) (a5.ic (a5.bb (bQ _ _) (a5.i3 1)))
  omega
end
def sel(xs:am a5):am (a5×am cy)->a5->am (a5×am cy)
 | [],_=> []
 |p::l,i=>Fe (xs.b6 i) (p::sel xs l (i+1)) (sel xs l (i+1))
theorem BC{xs:am a5}:∀{l:am (a5×am cy)} {i:a5},(sel xs l i).GT l:=by
 intro b
 induction b with
 |iv=>exact .hJ _
 |d2 p l a=>
  intro i;show(Fe _ _ _:am _).GT _;cases xs.b6 i with
  |true=>exact .cons_cons _ a
  |false=>exact .d2 _ a
theorem z0{xs:am a5}{i:a5}:(xs.hC b0.kP).b6 (i:b0)=xs.b6 i:=by rw[ct.eq_iff_iff,am.fA,am.fA,am.JQ];exact⟨λ⟨a,b,c⟩=>b0.kP.zv c▸b,λz=>⟨i,z,rfl⟩⟩
def Py:am S:=[.xD (.nt (.ju .LtE .Lt (.c (.bn 0)) (.v 3) (.bi 0 [.a (.v 0) 63]))) [.KI] []]
def PB:am S:=[.xD (.mc .In (.v 3) (.v 1)) [.as (.s (.a (.v 2) 61) (.v 4)) (.v 5)] []]
section
variable{d:H}{Y:Mt}{g k i2 iu:a5}{P:Prop}{xs ys:am a5}{lu:am V}{a b c:V}{W:DW}
theorem Ab(h1:d.ed 13 g=ap (dq Y W))(h2:d.ed 25 W.i=ap (.dG lu))(b:lu.ah<=7)(h3:d.ed 46 k=ap (.dG (ys.hC iV))):∀{xs:am a5} {x:V},(∀n,n∈xs->n<lu.ah)->∃a,aV true 2 (λm=>m.ed 46 k=ap (.dG (ys.hC iV))) (λv vs cb=>cb=vs.fC 3 v) Py (xs.hC iV) [.bs 13 g,.bs 46 k,c,x,.i1,.i1] d .nx [.bs 13 g,.bs 46 k,c,a,.i1,.i1] d:=by
 intro e
 induction e with
 |iv=>exact λ{x} Z=>⟨x,.iv h3⟩
 |d2 n l f=>
  intro x h;haveI j:=dT (b0.dv n);haveI o:=J0 (b0.hB.ow (h n (.sk _)));haveI p:lu.ah<=aQ:=a5.bb b av;obtain⟨a,i⟩:=f λm z=>h m (.sy _ z);refine⟨a,.d2 h3 rfl ?_ i⟩;fail"%4f";apply ET.oi;fail"=({$J)&$',b$$?$++"
theorem AX{ob:O}{f:a5}(ha:wB ob 61=ap (.bs 23 i2)):∀{l:am (a5×am cy)} {i:a5} {d:H} {x y z:V} {lk:am (b0×V)} {κ:Oc},(∀p,p∈l->p.1<32)->d.ed 13 f=ap ob->d.ed 25 iu=ap (.dG lu)->d.ed 46 k=ap (.dG (xs.hC iV))->d.ed 23 i2=ap (.di lk)->DR lk κ->
  ∃b c e m,aV true 2 (λm=>m.ed 25 iu=ap (.dG lu)) (λv vs cb=>∃w ws,v=.KS [w,.KS ws]/\ws.ah=[4,5].ah/\cb=bP [4,5] ws (vs.fC 3 w)) PB (fV i (l.hC pr)) [.bs 13 g,.bs 46 k,.bs 13 f,x,y,z] d .nx [.bs 13 g,.bs 46 k,.bs 13 f,b,c,e] m/\(∃a,m.ed 23 i2=ap (.di a)/\DR a (GS (sel xs l i) κ))/\Fr [23] d m/\m.gz 23=d.gz 23:=by
 intro A
 induction A with
 |iv=>
  intro i d x y z lk κ Z h1 h2 h3 h4 h5;exact⟨x,y,z,d,.iv h2,⟨lk,h4,h5⟩,.hJ,rfl⟩
 |d2 p l t=>
  intro i d x y z lk κ hs h1 h2 h3 h4 h5;have hn:=hs p (.sk _);have u:=z0 (xs:=xs) (i:=i);have h6:d.ed 46 k=ap (.dG ((xs.hC b0.kP).hC .bn)):=h3.trans (by rw[am.map_map];rfl);cases q:xs.b6 i with
  |true=>
   rw[q]at u;haveI B:=h5.key.lim;haveI C:=wo hn;obtain⟨b,c,e,m,h,⟨a,j,n⟩,o,r⟩:=t (d:=d.fC 23 i2 (.di (ee lk p.1 (.d3 p.2)))) (λv s=>hs v (.sy _ s)) h1 h2 h3 mx (h5.put hn);refine⟨b,c,e,m,.d2 h2 ⟨_,_,rfl,rfl,rfl⟩ ?_ h,⟨a,j,?_⟩,(Fr.fC rfl .hJ).trans o,r⟩
   ·fail"%R8";apply aq.mY;fail"$$%T(^&$$(";apply gB.di;fail"$$$++"
   ·show DR a (GS (Fe (xs.b6 i) _ _) κ);rw[q];exact n
  |false=>
   rw[q]at u;obtain⟨b,c,e,m,h,⟨a,j,n⟩,o,r⟩:=t (z:=.d3 p.2) (λv s=>hs v (.sy _ s)) h1 h2 h3 h4 h5;refine⟨b,c,e,m,.d2 h2 ⟨_,_,rfl,rfl,rfl⟩ ?_ h,⟨a,j,?_⟩,o,r⟩
   ·fail"%48";apply aq.mY;fail"$$++"
   ·show DR a (GS (Fe (xs.b6 i) _ _) κ);rw[q];exact n
theorem C8(D:aS d Y)(kz:20<=Y.nb)(h7:Y.bA.ah<=7)(B:∀x,x∈xs->x<Y.bA.ah)(h3:d.ed 46 k=ap (.dG (xs.hC iV)))
  (s:∀m,CA true 3 135 [.bs 13 Y.g,.bs 46 k] d (.ok (.bs 13 (d.gz 13)) m)->aS m (Mt.nu (d.gz 13) Y.nb (GS (sel xs Y.bA 0) Y.hT))->m.gz 13=d.gz 13+1->gH [13,23,24,25] d m->P):P:=by
 have E:=D.q;have bd:=E.bd;haveI O:=E.dy;refine vU (d:=d) (nb:=Y.nb) kz E.nb λm1 c1 D1 t u o=>?_;have h:=D1.q;generalize hg:d.gz 13=g' at c1 D1 h t s;have v:Y.g≠g':=hg▸a5.sK bd.1;have C:=(o 13 Y.g (hg.symm▸v)).trans E.dy;have o2:=(o 25 _ (a5.sK bd.2.2)).trans E.bA;have Q:=(o 23 _ (a5.sK bd.2.1)).trans E.hT;have F:=u.at h3 rfl;have G:m1.ed 13 g'=ap (dq (Mt.nu g' Y.nb λ_=>zb) D1.W):=h.dy;haveI R:=E.kr.key.lim;generalize a:(m1.hM 23 (.di D.W.lk)).fC 13 g' (sd (dq (Mt.nu g' Y.nb λ_=>zb) D1.W) 61 (.bs 23 (m1.gz 23)))=m3;have p1:=a▸(fM v).trans ((bz rfl).trans C);have p2:=a▸(a_ rfl).trans ((bz rfl).trans o2);have q:=a▸(a_ rfl).trans ((bz rfl).trans F);have H:=a▸(a_ rfl).trans aK;have w:m3.ed 13 g'=ap (sd (dq (Mt.nu g' Y.nb λ_=>zb) D1.W) 61 (.bs 23 (m1.gz 23))):=a▸mx;have I:=a▸(a_ rfl).trans ((bz rfl).trans h.bA);have j:m3.gz 13=g'+1/\m3.gz 23=m1.gz 23+1/\m3.gz 25=m1.gz 25:=a▸⟨t,rfl,rfl⟩;have J:gH [13,23,24,25] d m3:=a▸.fC rfl (.hM rfl u);obtain⟨K,L⟩:=Ab (c:=.bs 13 g') (x:=.i1) (xs:=xs) p1 p2 (by rw[am.fz];exact h7) q λn z=>by rw[am.fz];exact B n z
 obtain⟨S,T,U,b,M,⟨f,N,r⟩,e,V⟩:=AX (g:=Y.g) (iu:=D.W.i) (i2:=m1.gz 23) (x:=K) (y:=.i1) (z:=.i1) (l:=Y.bA) (i:=0) (ob:=sd (dq (Mt.nu g' Y.nb λ_=>zb) D1.W) 61 (.bs 23 (m1.gz 23))) rfl E.er w p2 q H E.kr;have A:b.ed 13 g'=ap (sd (dq (Mt.nu g' Y.nb λ_=>zb) D1.W) 61 (.bs 23 (m1.gz 23))):=Fr.at e w rfl;haveI W:=r.key.lim;refine s ((b.hM 24 (.di f)).fC 13 g' (dq (Mt.nu g' Y.nb (GS (sel xs Y.bA 0) Y.hT)) ⟨m1.gz 23,b.gz 24,D1.W.i,f,f⟩)) ?_ ⟨⟨m1.gz 23,b.gz 24,D1.W.i,f,f⟩,mx,(a_ rfl).trans ((bz rfl).trans (Fr.at e I rfl)),λp z=>bC z,(a_ rfl).trans ((bz rfl).trans N),r,(a_ rfl).trans aK,r,E.nb,λz=>dP z,?_⟩ ?_ ?_
 ·rw[←hg]at c1;subst hg;subst a;apply rt k6 rfl rfl;fail"%9";apply xk;fail")&$')&$','*$'%3J)&$',";apply bJ.Ec (ce:=23);fail"$$'";exact(bz rfl).trans G;fail"'0%";apply SS.lT;apply IT.of;fail"(";exact Es.dG q;exact L;fail"%";apply SS.G2;fail"j&$'";exact p2;exact M;fail"%3J)&";exact A;fail"',";apply bJ.Ec (ce:=24);fail"$$'";exact(bz rfl).trans A;fail"'05L"
 ·have b1:=h.bd;have X:=(e.go 13 rfl).2;have Z:=(e.go 25 rfl).2;have:=j.1;have:=j.2.1;have:=j.2.2;exact⟨show g'<b.gz 13 by omega,show m1.gz 23<b.gz 23 by omega,show D1.W.i<b.gz 25 by omega⟩
 ·exact(e.go 13 rfl).2.trans j.1
 ·exact .fC rfl (.hM rfl (J.trans (e.z.hA rfl)))
end
structure vb(d:H)(cs:am b0)(c:b0)(k:a5):Prop where
 box:d.ed 108 0=ap (.dG [.bs 109 0,.bn k,.bn c])
 np:d.ed 109 0=ap (.dG (cs.hC .bn))
 ER:cs.ah<=24
 c0:0<=c
 c1:c<1009
section
variable{d m:H}{k n ol:a5}{P:Prop}{cs:am b0}{c:b0}
theorem vb.fr(X:vb d cs c k){S:am a5}(h:Fr S d m)(e:(S.b6 108 ||S.b6 109)=false):vb m cs c k:=by haveI a:=ct.kb.mp e;exact⟨Fr.at h X.box a.1,Fr.at h X.np a.2,X.ER,X.c0,X.c1⟩
theorem hF(X:vb d cs c k)(a:k<=1000)(f:0<ol)(g:∀m n,CA true 1 116 [.bs 108 0,.bn ol] d (.ok (.bn (n:a5)) m)->n<ol->vb m cs c (k+1)->Fr [108] d m->P):P:=by
 haveI l:=X.box;haveI o:=X.np;haveI p:(cs.hC V.bn).ah<=aQ:=by rw[am.fz];exact a5.bb X.ER av
 haveI q:1< [V.bs 109 0,.bn k,.bn c].ah:=a5.ft rfl;haveI b:(0:b0)<ol:=b0.hB.ow f;have e:∀x:b0,CA true 1 116 [.bs 108 0,.bn ol] d (.ok (.bn (x % ol)) (d.fC 108 0 (.dG [.bs 109 0,.bn (k+1:a5),.bn c])))->P:=λx c1=>by
  haveI h0:=b0.emod_nonneg x (b0.FA b);haveI h1:=b0.emod_lt_of_pos x b;rw[←b0.toNat_of_nonneg h0]at c1 h1;exact g _ _ c1 (b0.hB.mp h1) ⟨mx,X.np,X.ER,X.c0,X.c1⟩ (.fC rfl .hJ)
 by_cases h:k<(cs.hC V.bn).ah
 ·haveI j:decide ((k:b0)<(cs.hC V.bn).ah)=true:=hq (b0.hB.ow h);rw[am.fz]at h;haveI r:(cs.hC V.bn)[k]?=ap (.bn cs[k]):=by refine((am.getElem?_map)).trans ?_;rw[am.wE h];rfl
  haveI s:k<2^62:=a5.fp a av;apply e cs[k];apply rt j7 rfl rfl;fail"%9XS$'";decide;fail"%T16^(=";apply gB.dG;fail"$$";decide;fail"%9";apply EX.gV;fail">(J)XS.'";decide;fail",b$$?$VXS.'";decide;fail"'S$$$5C1v$"
 ·haveI j:decide ((k:b0)<(cs.hC V.bn).ah)=false:=ia λz=>h (b0.hB.mp z);haveI s1:aP (c+5):=jA (b0.bb (by decide) (b0.G5 X.c0 (b0.i3 5))) (b0.bb (b0.G5 (b0.l6 X.c1) (b0.i3 5)) (by decide));haveI t:aP (k:b0):=Br (a5.bb a (by decide));haveI u:aP 11:=jA (by decide) (by decide);apply e ((c+5)*((k:b0)*k+11*k+17) % 1009);apply rt j7 rfl rfl;fail"%9XS$'";decide;fail"%T16^(=";apply gB.dG;fail"$$";decide;fail"%9";apply EX.bu;fail">(J)XS.'";decide;fail",b$$?$A;AX";apply bD.dG (i:=2);fail".'";decide;fail"'6A;1Z$1Z$6'6Z$'v";decide;fail"5C1v$"
end
def Mt.stop(Z:Mt)(n:a5):Mt:={Z with Dq:=ap (Z.w+n)}
def Mt.vj(Z:Mt)(n:a5):Mt:={Z with bx:=ap (Z.f+n)}
structure PE(Z Z':Mt):Prop where
 g:Z'.g=Z.g
 nb:Z'.nb=Z.nb
 w:Z'.w=Z.w
section
variable{d:H}{Z:Mt}{D:Oc}{ns:am a5}{a n k:a5}{P:Prop}{cs:am b0}{c:b0}
theorem Op.turn{b:Mt}{m:H}(O:Op d Z D ns a)(c:b.g=Z.g)(e:b.nb=Z.nb)(h:b.hT=Z.hT)(i:b.bA=Z.bA)(j:b.dead=Z.dead)(D':aS m b)(f:Fr [13] d m):Op m b D ns a:=by obtain⟨B,k,r⟩:=O;obtain⟨g,nb,w,fl,l,p,kp,n,o⟩:=b;obtain rfl:g=Z.g:=c;obtain rfl:nb=Z.nb:=e;obtain rfl:kp=Z.hT:=h;obtain rfl:n=Z.bA:=i;obtain rfl:o=Z.dead:=j;have X:=r.X.fr f rfl;exact⟨B,k,⟨⟨r.F.K.C.fr f rfl,D',r.F.K.qE,r.F.K.cl,r.F.K.er,r.F.K.ER⟩,r.F.J.fr f rfl,r.F.wY,r.F.pin,r.F.has⟩,r.j2,r.dat,⟨X.nodes,X.sup,X.hd,X.kz⟩,r.nd⟩
theorem E8(O:Op d Z D ns a)(c:∀m,CA true 1 61 [.bs 13 Z.g,.bn n] d (.ok .bk m)->Op m (Z.stop n) D ns a->Fr [13] d m->P):P:=by have b:=O.ef λY z=>z.ef λY z=>z.F.K.D;have E:=b.q;haveI g:=E.dy;haveI e:decide ((n:b0)<0)=false:=dF (b0.to.ow (b0.dv _));have f:Fr [13] d (d.fC 13 Z.g (dq (Z.stop n) b.W)):=.fC rfl .hJ;refine c (d.fC 13 Z.g (dq (Z.stop n) b.W)) ?_ (O.turn rfl rfl rfl rfl rfl ⟨b.W,mx,E.bA,E.er,E.hT,E.kr,E.oU,E.lr,E.nb,λY z=>oP z,E.bd⟩ f) f;apply nx fR rfl rfl;fail"%48?$+%3A&$''6'$'0+"
theorem BM(O:Op d Z D ns a)(c:∀m,CA true 1 62 [.bs 13 Z.g,.bn n] d (.ok .bk m)->Op m (Z.vj n) D ns a->Fr [13] d m->P):P:=by have b:=O.ef λY z=>z.ef λY z=>z.F.K.D;have E:=b.q;haveI g:=E.dy;haveI e:decide ((n:b0)<0)=false:=dF (b0.to.ow (b0.dv _));have f:Fr [13] d (d.fC 13 Z.g (dq (Z.vj n) b.W)):=.fC rfl .hJ;refine c (d.fC 13 Z.g (dq (Z.vj n) b.W)) ?_ (O.turn rfl rfl rfl rfl rfl ⟨b.W,mx,E.bA,E.er,E.hT,E.kr,E.oU,E.lr,E.nb,λY Y z=>oP z,E.bd⟩ f) f;apply nx d_ rfl rfl;fail"%48?$+%3A&$''6'$'0+"
theorem Op.dy(O:Op d Z D ns a):d.ed 13 Z.g=ap (.qD (uq d 13 Z.g)):=O.ef λY z=>z.ef λY z=>kT z.F.K.D.q.dy
theorem wC(B:vb d cs c k)(s:k<=900)(O:Op d Z D [] 0)(h:∀m t k',CA true 3 143 [.bs 108 0,.bs 13 Z.g] d (.ok .bk m)->PE Z t->vb m cs c k'->k'<=k+2->Op m t D [] 0->Fr [13,45,108] d m->P):P:=by
 refine hF (ol:=5) B (a5.bb s av) av λm1 a c1 u B1 g=>?_;have b:=O.fr g rfl;by_cases h3:a<3
 ·obtain⟨v,w,h0⟩:∃v:a5,([.bn (40:a5),.bn (12:a5),.bn (90:a5)]:am V)[a]?=ap (.bn v)/\0<v:=Lm h3 ⟨40,rfl,by decide⟩ ⟨12,rfl,by decide⟩ ⟨90,rfl,by decide⟩;have i:Fr [45] m1 (m1.hM 45 (.dG [.bn (40:a5),.bn (12:a5),.bn (90:a5)])):=.hM rfl .hJ;refine hF (B1.fr i rfl) (a5.fp s av) h0 λx n j hn l e=>?_;have o:=(b.fr i rfl).fr e rfl;refine E8 o λp q r f=>h p (Z.stop n) (k+1+1) ?_ ⟨rfl,rfl,rfl⟩ (l.fr f rfl) (a5.i3 _) r ((g.hA rfl).trans ((i.hA rfl).trans ((e.hA rfl).trans (f.hA rfl))));haveI y:decide ((a:b0)<3)=true:=dT (b0.hB.ow h3);haveI z:a<2^62:=a5.bb u av;apply nx d7 rfl rfl;fail"%9F)()=,";(apply CA.up;exact c1;rfl);fail"%R8?$%2P";exact b.dy;fail"')F)()V";apply EX.ls (ce:=45);fail")=)=)=,0'S";exact aK;exact w;fail"$,";(apply CA.up;exact j;rfl);fail",";(apply CA.up;exact q;rfl);fail"++"
 ·by_cases h4:a=3
  ·subst h4;refine hF (ol:=20) B1 (by omega) av λx n j hn l e=>?_;have o:=b.fr e rfl;refine BM o λp q r f=>h p (Z.vj n) (k+1+1) ?_ ⟨rfl,rfl,rfl⟩ (l.fr f rfl) (a5.i3 _) r ((g.hA rfl).trans ((e.hA rfl).trans (f.hA rfl)));apply nx d7 rfl rfl;fail"%9F)()=,";(apply CA.up;exact c1;rfl);fail"%48?'%R8D'%2P";exact b.dy;fail"')F)()=,";(apply CA.up;exact j;rfl);fail",";(apply CA.up;exact q;rfl);fail"+++"
  ·obtain rfl:a=4:=by omega
   refine h m1 Z (k+1) ?_ ⟨rfl,rfl,rfl⟩ B1 (by omega) b (g.hA rfl);apply nx d7 rfl rfl;fail"%9F)()=,";(apply CA.up;exact c1;rfl);fail"%48?'%48D'+++"
end
section
variable{d:H}{Z:Mt}{D:Oc}{Io:ct}{c q k n Q f:a5}{l b o:am cy}{P:Prop}
theorem Gf:CA true 1 144 [.bn n,.bn Q,.gg true] d (.ok (.bs 47 (d.gz 47)) (d.hM 47 (.dG [iV n]))):=by apply rt gk rfl rfl;fail"5C";apply EX.gV;fail"G('";apply EX.ls;fail"Y0"
theorem HJ{x y:a5}:V.bn (if(y:b0)<(x:b0)then(y:b0)else(x:b0))=iV (min x y):=b5 V.bn (by rw[a5.min_def];split<;>split<;>omega)
theorem Ge:CA true 1 144 [.bn n,.bn Q,.gg false] d (.ok (.bs 47 (d.gz 47)) (d.hM 47 (.dG [iV (min n (48*Q)),iV (min n (48*(Q+1)))]))):=by have a:aP 48:=jA (by decide) (by decide);apply rt gk rfl rfl;fail"5C";apply EX.bu;fail"G('";apply EX.ls;fail")OJ)()1";exact au.mul a;fail",w";exact HJ;fail")OJ)();=16";exact au.mul a;fail",w";exact HJ;fail",0"
def Of:am X:=[.bo true [.mc .Eq (.v 6) (.b .s0 (.v 2) (.sl (.v 3) .omit (.v 7))),.mc .Eq (.a (.v 5) 6) (.b .s0 (.bi 0 [.v 2]) (.v 7))]]
theorem x_{g:V}{j:a5}{hh:b0}{s:V}{l3:am V}{t I kd ln:a5}(A:d.ed 15 q=ap (bg t I j hh kd ln l.ah))(a:d.ed 47 k=ap (.dG l3))(u:b.ah<=400)(lo:o.ah<=400):∀{ns:am a5} {x:V},(∀n,n∈ns->n<=o.ah)->∃EQ,bH 13 (λm=>m.ed 47 k=ap (.dG l3)) 7 (.v 7) Of [g,s,.d3 b,.d3 o,.bs 47 k,.bs 15 q,.d3 l,x] (ns.hC iV) d EQ d/\EQ.ah<=ns.ah/\∀n,n∈ns->l=b++o.m0 n->EQ≠[]:=by
 intro v
 induction v with
 |iv=>exact λ{x} Z=>⟨[],.iv a,a5.i3 _,λn z=>bC z⟩
 |d2 n ns w=>
  intro x h;obtain⟨EQ,i,p,y⟩:=w λm z=>h m (.sy _ z);have hn:=h n (.sk _);have c:Iu o 0 n=o.m0 n:=rfl;haveI B:o.ah<=aQ:=a5.bb lo av;haveI C:b.ah<=aQ:=a5.bb u av;haveI r:b.ah+(Iu o 0 n).ah<=aQ:=by rw[c,am.w1];have:aQ=1000000:=rfl;omega
  cases f:l==b++Iu o 0 n with
  |true=>
   have el:=cx f;have D:((l.ah:b0)==(b.ah:b0)+n)=true:=eT (by rw[el,c,am.ep,am.w1];omega);refine⟨iV n::EQ,.m0 a ?_ (xv rfl rfl) i,a5.ic p,λZ Z Z z=>NZ z⟩;fail":H:>(;(o(sU('";apply fL.d3;exact .u0 ⟨rfl,rfl⟩;exact .wl rfl;fail"$";exact au.d3 r;exact aq.eqB;fail"$:>&$';Ig$(6D$M'M"
  |false=>
   refine⟨EQ,.skip a ?_ i,a5.zu p,λm z e=>?_⟩
   ·fail"tHt>(;(o(sU('";apply fL.d3;exact .u0 ⟨rfl,rfl⟩;exact .wl rfl;fail"$";exact au.d3 r;exact aq.eqB;fail"$'"
   ·rcases am.hD.mp z with rfl |z
    ·rw[c,←e,Bb]at f;exact mj f
    ·exact y m z e
theorem jW{kd ln sz p0 p1 p2:a5}:dK (Ca kd ln sz p0 p1 p2) 24 kd ln sz p0 p1 p2:=⟨⟨rfl,rfl⟩,⟨rfl,rfl⟩,⟨rfl,rfl⟩,⟨rfl,rfl⟩,⟨rfl,rfl,rfl,rfl⟩,⟨rfl,rfl,rfl,rfl⟩,⟨rfl,rfl,rfl,rfl⟩,⟨rfl,rfl,rfl,rfl⟩⟩
theorem pf{i c:a5}(h:i<=2):pX i c<4294967296:=by unfold pX;cases a5.Ly i c with |true=>show 13+i<_;exact a5.fp (a5.kQ h _) av |false=>exact av
theorem CQ{ns:am a5}(O:Op d Z D [] 0)(X:tD D Io c l)(ht:d.ed 28 Z.g=ap (.di []))(y:l.ah<=336)(hb:∀i,48*i<l.ah->gG i<Z.nb)(z:b.ah<=400)(lo:o.ah<=400)(A:d.ed 47 k=ap (.dG (ns.hC iV)))(B:∀n,n∈ns->n<=o.ah)(C:ns.ah<=2)(E:∃n,n∈ns/\l=b++o.m0 n)
  (F:∀m q j,CA true 14 145 [.bs 16 Z.g,.bn 1,.d3 b,.d3 o,.bs 47 k] d (.ok (.gg true) m)->Op m Z D [] 0->m.ed 15 q=ap (bg Z.g 1 j 1 2 1 l.ah)->m.ed 28 Z.g=ap (.di [((1:a5),.bs 15 q)])->m.gz 15=q+1->Fr (49::48::xt) d m->P):P:=by
 haveI U:=O.ob;refine tW (I:=1) O av av ht rfl (a5.ri _) (by show dK (D 10) 24 _ _ _ _ _ _;rw[X.row];exact jW) (by decide) (by decide) (by decide) (a5.fp y av) (pf (by decide)) (pf (by decide)) (pf (by decide)) λm1 q j c1 G p H Y J ho r=>?_;haveI g1:=p.K1;have W:FW m1 Z D [] 0 q j 1 2 1 l.ah c (oF l):=⟨G,p,X.B⟩;refine BN (py:=0) (gz:=2000) (t:=l.ah) W (λi hi=>hb i (by have:=X.low;omega)) X.CO (by omega) (by omega) (by rw[a5.pt];exact dx (by omega)) λa u h f=>?_;have K:DD (oF l) 0 l.ah=l:=vI;rw[K]at u;have w:a.ed 47 k=ap (.dG (ns.hC iV)):=Fr.at f (Fr.at r A rfl) rfl;obtain⟨EQ,L,t4,M⟩:=x_ (g:=.bs 16 Z.g) (s:=.bn 1) (b:=b) (o:=o) (x:=.i1) h.N.K1 w z lo B;obtain⟨n,N,Q⟩:=E;haveI R:(!EQ.sw)=true:=by cases S:EQ with |iv=>exact kk S (M n N Q) |d2 _ _=>rfl
 have e:Fr [49,48] a ((a.hM 48 (.dG EQ)).hM 49 (.dG [])):=.hM rfl (.hM rfl .hJ);have T:Fr (49::48::xt) d a:=(r.hA rfl).trans (f.hA rfl);refine F ((a.hM 48 (.dG EQ)).hM 49 (.dG [])) q j ?_ (h.O.fr e rfl) (Fr.at e h.N.K1 rfl) (Fr.at e (Fr.at f H rfl) rfl) ((e.go 15 rfl).2.trans ((f.go 15 rfl).2.trans J)) (T.trans (e.hA rfl));refine CA.vl (v:=.gg (!EQ.sw)) ?_ (b5 V.gg R);apply rt mA rfl rfl;fail"%97$''";(apply CA.up;exact c1;rfl);fail"%97$''";(apply CA.up;exact u;rfl);fail"5C";apply EX.mc;apply EX.lc (ce:=48);apply IT.of;fail"(";exact Es.dG w;exact a5.bb (a5.mZ (am.fz ..)) (a5.bb C av);exact L;apply EX.ls (ce:=49);fail",0";apply aq.wH;(repeat first |exact a4.mx |exact a4.K.aK |assumption |refine(a4.K.a_ rfl).trans ?_ |refine(a4.K.bz rfl).trans ?_)
end
section
variable{d:H}{Z:Mt}{D:Oc}{Io:ct}{c q j k n Q f:a5}{l b o:am cy}{hh:b0}{P:Prop}{tl:am (b0×V)}
theorem yS{c:a5}(h:c<=7):A_ c<=8:=by
 by_cases z:c<3
 ·rw[nN z];omega
 ·rw[qt (a5.Fa z)];omega
theorem KN{n c:a5}(h:n<=48*c)(h':48*c<n+48):((n:b0)+47)/48=c:=by omega
theorem KW{a c n:a5}{x:b0}(e:(a:b0)=c+x)(h:a<=n - 13)(h':20<=n):((n - 13 - a:a5):b0)=(n:b0) - 13 - c - x:=by omega
theorem vR(O:Op d Z D [] 0)(X:tD D Io c l)(ht:d.ed 28 Z.g=ap (.di tl))(f:bY tl ((1:a5):b0)=ap (.bs 15 q))(hn:d.ed 15 q=ap (bg Z.g 1 j hh 2 1 l.ah))(g:Z.nb<=32)(hb:A_ c<=Z.nb - 13)(n:l.ah<=336)
  (h:∀m,CA true 7 146 [.bs 16 Z.g,.bn 1] d (.ok (.gg true) m)->Fr (15::gI) d m->P):P:=by
 have kz:=O.x.kz;have c1:=Ao O.x av av ht f hn;have a:Fr [15] d (d.fC 15 q (bg Z.g 1 j (hh+1) 2 1 l.ah)):=.fC rfl .hJ;have b:=O.fr a rfl;haveI o:=b.ob;refine o7 b X.B.bit (yS X.B.le) g λm i e k=>h m ?_ ((a.hA rfl).trans (k.hA rfl));haveI p:=e.ob;haveI r:=e.s;have en:(A_ c:b0)=c+(if decide ((2:b0)<c)=true then 1 else 0):=by
  by_cases z:c<3
  ·rw[nN z,dF (show¬(2:b0)<c by omega),dx ct.wT];omega
  ·rw[qt (a5.Fa z),dT (show(2:b0)<c by omega),et rfl];omega
 refine CA.vl ?_ (b5 V.gg (eT (KW en hb kz)));apply rt fu rfl rfl;fail"%9OAAE7$''";(apply CA.up;exact c1;rfl);fail".''6'h";decide;decide;exact(b5 V.bn (KN X.CO X.low));fail"5C";apply EX.mc;fail"7$''";(apply CA.up;exact i;rfl);fail";AAE&$'$''W'WJ)";apply EX.bR rfl rfl;fail"e,";exact bJ.Lq;fail"WD"
end
def gE(l:am V):am V:=(.bs 99 0::l)++am.f7 (17 - l.ah) .i1
def jr(i:a5):S:=(zK.lV[i]?).ww .br
structure LS(d:H)(ob:Do)(cC cs:am b0)(c:b0)(k kn:a5)(sh:ct):Prop where
 Iw:d.ed 99 0=ap (.fix ob (cC.hC .bn))
 B:vb d cs c k
 N:d.ed 50 kn=ap (.dG (Fe sh [iV 1] [iV 1,iV 2]))
 C:tv d 1
 Me:d.gz 13=1
section
variable{d m:H}{ob:Do}{cC cs:am b0}{c:b0}{k kn g:a5}{sh:ct}{P:Prop}{S:am a5}
theorem tv.fr(C:tv d g)(f:Fr S d m):tv m g:=⟨(f.mQ 12 rfl).trans C.Kt,(f.mQ 14 rfl).trans C.Md,(f.mQ 16 rfl).trans C.Mc,(f.mQ 17 rfl).trans C.Ks,(f.mQ 20 rfl).trans C.Mb,(f.mQ 21 rfl).trans C.Ma,(f.mQ 28 rfl).trans C.L_,by have e:=f.xj;rw[C.xj]at e;exact a5.add_right_cancel e⟩
theorem LS.fr(X:LS d ob cC cs c k kn sh)(f:Fr S d m)(e:(S.b6 99 ||S.b6 108 ||S.b6 109 ||S.b6 50)=false):LS m ob cC cs c k kn sh:=by have a:=ct.kb.mp e;have b:=ct.kb.mp a.1;have g:=ct.kb.mp b.1;exact⟨Fr.at f X.Iw g.1,X.B.fr f (by rw[g.2,b.2];rfl),Fr.at f X.N a.2,X.C.fr f,(f.mQ 13 rfl).trans X.Me⟩
theorem LS.box{k':a5}(X:LS d ob cC cs c k kn sh)(f:Fr S d m)(B':vb m cs c k')(e:(S.b6 99 ||S.b6 50)=false):LS m ob cC cs c k' kn sh:=by have a:=ct.kb.mp e;exact⟨Fr.at f X.Iw a.1,B',Fr.at f X.N a.2,X.C.fr f,(f.mQ 13 rfl).trans X.Me⟩
theorem B5{xs:am b0}{i j:a5}:Iu (xs.hC V.bn) i j=(Iu xs i j).hC .bn:=by unfold Iu;rw[am.map_drop,am.map_take]
theorem HV(h:d.ed 99 0=ap (.fix ob (cC.hC .bn)))(j:cC.ah<=1000)(z:∀t,t≠99->d.gz t=0)(k:∀m cs c sh,(∀{s8 fl aL e},SB true 22 (gE [.bs 109 0,.bs 108 0,.gg sh]) m s8 fl aL e->SB true 22 (gE []) d (jr 0::jr 1::s8) fl aL e)->vb m cs c 0->Fr [108,109] d m->P):P:=by
 haveI l:(cC.hC V.bn).ah<=aQ:=by rw[am.fz];exact a5.bb j av
 haveI f:SS true 22 (gE []) d (jr 0) .nx (gE [.bs 109 0]) (d.hM 109 (.dG (Iu (cC.hC .bn) 0 24))):=
  SS.as (EX.as (EX.sl (xv rfl rfl) EO.bk (EO.ap xi rfl) (fL.ls (rB.fix h) (.u0 ⟨rfl,rfl⟩) (.wl rfl) l)) (b5 (V.bs 109) (z 109 (by decide)))) TG.wQ
 have h1:(d.hM 109 (.dG (Iu (cC.hC .bn) 0 24))).ed 109 0=ap (.dG ((Iu cC 0 24).hC .bn)):=Gn (z 109 (by decide)) aK (b5 O.dG B5);haveI a:Fr [109] d (d.hM 109 (.dG (Iu (cC.hC .bn) 0 24))):=.hM rfl .hJ;generalize d.hM 109 (.dG (Iu (cC.hC .bn) 0 24))=m1 at f h1 a;haveI b:(Iu cC 0 24).ah<=24:=am.length_take_le 24 cC;generalize Iu cC 0 24=cs at h1 b;have g:=(a.go 108 rfl).2.trans (z 108 (by decide));haveI n:(cs.hC V.bn).ah<=aQ:=by rw[am.fz];exact a5.bb b av
 have i:(m1.hM 108 (.dG [.bs 109 0,.bn 0,.bn (cs.sum % 1009)])).ed 109 0=ap (.dG (cs.hC .bn)):=(bz rfl).trans h1;haveI s1:SS true 22 (gE [.bs 109 0]) m1 (jr 1) .nx (gE [.bs 109 0,.bs 108 0,.gg (decide (((cs.hC V.bn).ah:b0)<2))]) (m1.hM 108 (.dG [.bs 109 0,.bn 0,.bn (cs.sum % 1009)])):=
  SS.ast (EX.tp (EL.d2 (EX.as (EX.ls (EL.d2 (xv rfl rfl) (EL.d2 xi (EL.d2 (EX.bin (EX.bi (EL.d2 (xv rfl rfl) EL.iv) (bJ.sum h1)) xi (au.mod (by decide))) EL.iv))) av) (b5 (V.bs 108) g)) (EL.d2 (EX.mc (EX.bi (EL.d2 (xv rfl rfl) EL.iv) (bJ.jq i n)) xi aq.lt) EL.iv)) av) rfl (fF.d2 TG.wQ (fF.d2 TG.wQ fF.iv))
 haveI o:vb (m1.hM 108 (.dG [.bs 109 0,.bn 0,.bn (cs.sum % 1009)])) cs (cs.sum % 1009) 0:=⟨Gn g aK rfl,i,b,b0.emod_nonneg _ (by decide),b0.emod_lt_of_pos _ (by decide)⟩;exact k _ cs _ _ (λp=>SB.d2 f (SB.d2 s1 p)) o ((a.hA rfl).trans (.hM rfl .hJ))
end
abbrev qu(sh:ct):a5:=Fe sh 20 32
theorem Fb{n:a5}:oF [] n=0:=by show ins (λZ=>0) 0 [] n=0;exact nS (a5.ri _)
theorem vM{D:Oc}{Io:ct}(a:D 10=Ca 2 1 0 0 0 0)(b:D 12=zb)(c:Io=true->D 11=eR zb 0 2 1 0 0 0 0):tD D Io 0 []:=
 ⟨⟨b,λh=>kk h (by decide),λi h=>kk h (a5.not_lt_zero i),λn Z=>Fb,a5.ri _,⟨_,_,_,_,_,_,a⟩⟩,a,a5.i3 _,by decide,c⟩
theorem KZ:dK zb 24 0 0 0 0 0 0:=⟨⟨rfl,rfl⟩,⟨rfl,rfl⟩,⟨rfl,rfl⟩,⟨rfl,rfl⟩,⟨rfl,rfl,rfl,rfl⟩,⟨rfl,rfl,rfl,rfl⟩,⟨rfl,rfl,rfl,rfl⟩,⟨rfl,rfl,rfl,rfl⟩⟩
theorem Hz:dK zb 0 0 0 0 0 0 0:=⟨⟨rfl,rfl⟩,⟨rfl,rfl⟩,⟨rfl,rfl⟩,⟨rfl,rfl⟩,⟨rfl,rfl,rfl,rfl⟩,⟨rfl,rfl,rfl,rfl⟩,⟨rfl,rfl,rfl,rfl⟩,⟨rfl,rfl,rfl,rfl⟩⟩
theorem KY:eR (eR zb 24 2 0 0 0 0 0) 24 2 1 0 0 0 0=Ca 2 1 0 0 0 0:=by decide+kernel
theorem KX:eR (eR zb 0 2 0 0 0 0 0) 0 2 1 0 0 0 0=eR zb 0 2 1 0 0 0 0:=by decide+kernel
def MB:am a5:=50::15::29::32::40::23::13::24::25::37::38::39::My
section
variable{d m:H}{ob:Do}{cC cs:am b0}{c:b0}{k kn g:a5}{sh:ct}{P:Prop}{S:am a5}
theorem HU(h:d.ed 99 0=ap (.fix ob (cC.hC .bn)))(B:vb d cs c 0)(z:∀t,t≠99->t≠108->t≠109->d.gz t=0)
  (J:∀m Z D kn,(∀{s8 fl aL K},SB true 22 (gE [.bs 109 0,.bs 108 0,.gg sh,.bs 13 0,.bs 16 0,.bs 50 kn]) m s8 fl aL K->SB true 22 (gE [.bs 109 0,.bs 108 0,.gg sh]) d (jr 2::jr 3::jr 4::s8) fl aL K)->
   LS m ob cC cs c 0 kn sh->Op m Z D [] 0->tD D (!sh) 0 []->m.ed 28 0=ap (.di [])->Z.g=0->Z.nb=qu sh->Z.w<=50->Z.Dq=bk->Z.bx=bk->gH MB d m->P):P:=by
 have hL:aQ=1000000:=rfl;have a:∀t,a5.ble t 90=true->d.gz t=0:=λt ht=>by
  have:=a5.ft ht;exact z t (a5.sK (a5.fp this av)) (a5.sK (a5.fp this av)) (a5.sK (a5.fp this av))
 have kz:20<=qu sh:=by cases sh<;>decide
 have L:qu sh<=32:=by cases sh<;>decide
 refine vU (d:=d) (nb:=qu sh) kz L λm1 c1 D1 x b _=>?_;have M:=a 13 rfl;rw[M]at D1 x;have e2:EX true 22 (gE [.bs 109 0,.bs 108 0,.gg sh]) d (.qC (.v 3) (.c (.bn 20)) (.c (.bn 32))) (.ok (.bn (qu sh:a5)) d):=by
  cases sh with
  |true=>exact EX.gV (ET.rE rfl (xv rfl rfl)) rfl xi
  |false=>exact EX.bu (ET.rE rfl (xv rfl rfl)) rfl xi
 have N:SS true 22 (gE [.bs 109 0,.bs 108 0,.gg sh]) d (jr 2) .nx (gE [.bs 109 0,.bs 108 0,.gg sh,.bs 13 0]) m1:=
  SS.as (EX.as (xk (EL.d2 e2 (EL.d2 xi EL.iv)) rfl (c1.up rfl)) (b5 (V.bs 13) M)) TG.wQ
 have T1:tv m1 0:=⟨(b 12 rfl).2.trans (a 12 rfl),(b 14 rfl).2.trans (a 14 rfl),(b 16 rfl).2.trans (a 16 rfl),(b 17 rfl).2.trans (a 17 rfl),(b 20 rfl).2.trans (a 20 rfl),(b 21 rfl).2.trans (a 21 rfl),(b 28 rfl).2.trans (a 28 rfl),((b 11 rfl).2.trans (a 11 rfl)).trans ((b 22 rfl).2.trans (a 22 rfl)).symm⟩;have S1:rA (qu sh) (λ_=>zb) (λ_=>zb) []:=⟨pv.symm,.iv,a5.ri _,λ_ z=>bC z,λi n z=>dE z,λ_ _ _=>rfl⟩;refine pO (Z:=Mt.nu 0 (qu sh) λ_=>zb) D1 rfl rfl rfl rfl (λ_=>rfl) kz L (by show 0+40<=aQ;exact av) S1 T1 λf Y c2 R O2 t2 O Q f2=>?_;have S:SS true 22 (gE [.bs 109 0,.bs 108 0,.gg sh,.bs 13 0]) m1 (jr 3) .nx (gE [.bs 109 0,.bs 108 0,.gg sh,.bs 13 0,.bs 16 0]) f:=
  SS.as (EX.ng (EL.d2 (xv rfl rfl) EL.iv) (c2.up rfl)) TG.wQ
 have k:gH MB d f:=(b.hA rfl).trans (f2.hA rfl);have h2:f.ed 99 0=ap (.fix ob (cC.hC .bn)):=k.at h rfl;have T:vb f cs c 0:=⟨k.at B.box rfl,k.at B.np rfl,B.ER,B.c0,B.c1⟩;have y:=R.w;have eg:Y.g=0:=R.g;have en:Y.nb=qu sh:=R.nb;have w8:Y.w<=8:=by have:Y.w<=0+8:=y;exact y
 refine Ap (I:=1) (by decide) O2 (by rw[eg];exact t2) (a5.bb (a5.A9 y _) av) R.Dq R.bx (Mn KZ) λl U o A e W p j C X=>?_;rw[eg]at A C
 change o 10=eR (eR zb 24 2 0 0 0 0 0) 24 2 1 0 0 0 0 at p
 rw[KY]at p;have j:∀n,n≠10->o n=zb:=j;have w3:U.w<=24:=by have:=e.w;omega
 have v:=e.g.trans eg;cases sh with
 |true=>
  have g:Fr [50] l (l.hM 50 (.dG [iV 1])):=.hM rfl .hJ;have q:Fr (50::xt) f (l.hM 50 (.dG [iV 1])):=(X.hA rfl).trans (g.hA rfl);have E:SS true 22 (gE [.bs 109 0,.bs 108 0,.gg true,.bs 13 0,.bs 16 0]) f (jr 4) .nx (gE [.bs 109 0,.bs 108 0,.gg true,.bs 13 0,.bs 16 0,.bs 50 (l.gz 50)]) (l.hM 50 (.dG [iV 1])):=
   SS.asc (IT.er (EL.d2 (EX.gV (ET.rE rfl (xv rfl rfl)) rfl xi) EL.iv) (rG.one (jA (by decide) (by decide)))) (by decide) (.m0 trivial EA.iv (EX.ng (EL.d2 (xv rfl rfl) EL.iv) (A.up rfl)) (.iv trivial))
  exact J _ U o _ (λF=>SB.d2 N (SB.d2 S (SB.d2 E F))) ⟨Fr.at q h2 rfl,T.fr q rfl,aK,O.fr q,(q.mQ 13 rfl).trans (Q.trans x)⟩ (W.fr g rfl) (vM p (j 12 (by decide)) λz=>dP z) (Fr.at g C rfl) v (e.nb.trans en) (by omega) (e.Dq.trans R.Dq) (e.bx.trans R.bx) (k.trans (q.z.hA rfl))
 |false=>
  refine Ap (I:=2) (by decide) W (by rw[v];exact C) (by omega) (e.Dq.trans R.Dq) (e.bx.trans R.bx) (Mm (by rw[p];exact jW) (by rw[j 11 (by decide)];exact Hz)) λr Z4 G c4 s O4 H w t4 f4=>?_;rw[v]at c4 t4
  change G 11=eR (eR (o 11) 0 2 0 0 0 0 0) 0 2 1 0 0 0 0 at H
  rw[j 11 (by decide),KX]at H;have w:∀n,n≠11->G n=o n:=w;have w4:Z4.w<=40:=by have:=s.w;omega
  have g:Fr [50] r (r.hM 50 (.dG [iV 1,iV 2])):=.hM rfl .hJ;have u:Fr (50::xt) f (r.hM 50 (.dG [iV 1,iV 2])):=(X.hA rfl).trans ((f4.hA rfl).trans (g.hA rfl));have E:SS true 22 (gE [.bs 109 0,.bs 108 0,.gg false,.bs 13 0,.bs 16 0]) f (jr 4) .nx (gE [.bs 109 0,.bs 108 0,.gg false,.bs 13 0,.bs 16 0,.bs 50 (r.gz 50)]) (r.hM 50 (.dG [iV 1,iV 2])):=
   SS.asc (IT.er (EL.d2 (EX.bu (ET.rE rfl (xv rfl rfl)) rfl xi) EL.iv) (rG.one (jA (by decide) (by decide)))) (by decide) (.m0 trivial EA.iv (EX.ng (EL.d2 (xv rfl rfl) EL.iv) (A.up rfl)) (.m0 trivial EA.iv (EX.ng (EL.d2 (xv rfl rfl) EL.iv) (c4.up rfl)) (.iv trivial)))
  exact J _ Z4 G _ (λF=>SB.d2 N (SB.d2 S (SB.d2 E F))) ⟨Fr.at u h2 rfl,T.fr u rfl,aK,O.fr u,(u.mQ 13 rfl).trans (Q.trans x)⟩ (O4.fr g rfl) (vM ((w 10 (by decide)).trans p) ((w 12 (by decide)).trans (j 12 (by decide))) λ_=>H) (Fr.at g t4 rfl) (s.g.trans v) (s.nb.trans (e.nb.trans en)) (by omega) (s.Dq.trans (e.Dq.trans R.Dq)) (s.bx.trans (e.bx.trans R.bx)) (k.trans (u.z.hA rfl))
end
section
variable{lp:ct}{d m:H}{ob:Do}{cC cs:am b0}{c:b0}{k kn g q:a5}{sh:ct}{P:Prop}{Z:Mt}{D:Oc}{ks:am a5}{l:am V}
theorem Al(a:d.gz 7=0)(b:∀m,CA lp 1 9 [.bs 7 0,.bn 4] (d.hM 7 (.qD [])) (.ok .bk m)->Fr [7,51] d m->P):P:=by
 refine b ?m (G6 a ?c) ?g
 case c=>
  apply nx gN rfl rfl;fail"%3('.'0%3='.'0%3";exact EX.Ed (ce:=51);fail"'.'0+"
 case g=>exact .fC rfl (.hM rfl (.fC rfl (.fC rfl (.hM rfl .hJ))))
theorem Au(e:d.gz 10=0)(f:∀m k,CA lp 1 18 [.bs 10 0,.bn 4,.bs 7 0,.bs 16 g,.bs 17 g,.bs 44 0,.bn 48] (d.hM 10 (.qD [])) (.ok .bk m)->m.ed 10 0=ap (Bd g k)->m.ed 43 k=ap (.dG [])->Fr [10,43] d m->P):P:=by
 refine f ?m (d.gz 43) (G6 e ?c) ?a ?b ?g
 case c=>
  apply nx gQ rfl rfl;fail"%4H:8?':8?'M'+%3('.'0%3('.'0%3('.'0%3('.'0%3('.'0%3('.'0%3";apply EX.ls (ce:=43);fail",0'.'0+"
 case a=>exact Gn e mx rfl
 case b=>(repeat first |exact a4.mx |exact a4.K.aK |assumption |refine(a4.K.a_ rfl).trans ?_ |refine(a4.K.bz rfl).trans ?_)
 case g=>exact .fC rfl (.hM rfl (.fC rfl (.fC rfl (.fC rfl (.fC rfl (.fC rfl (.fC rfl (.hM rfl .hJ))))))))
theorem CX{rd wt:ct}:CA lp 1 15 [.bs 9 (d.gz 9),.J6 ks,.gg rd,.gg wt] (d.hM 9 (.qD [])) (.ok .bk (d.hM 9 (.qD [(19,(.J6 ks)),(21,.gg rd),(22,.gg wt),(23,.bn 1),(24,.bn 0),(25,.bk),(26,.bk),(27,.bn 0)]))):=by
 fail"i"
 ·apply nx ig rfl rfl;fail"%3('.'0%3('.'0%3('.'0%3='.'0%3='.'0%3";exact xn;fail"'.'0%3";exact xn;fail"'.'0%3='.'0+"
 ·apply(bF).trans;rw[bF,bF,bF,bF,bF,bF,qr];rfl
theorem CY{f:a5}(h1:d.ed 10 0=ap (Bd g k))(h2:d.ed 43 k=ap (.dG [])):CA true 2 21 [.bs 10 0,.bs 9 f] d (.ok (.bs 9 f) (d.fC 43 k (.dG ([] ++[.bs 9 f])))):=by
 haveI a:([]:am V).ah<=aQ:=a5.ri _;haveI b:([]:am V).ah+1<=aQ:=by decide
 have c1:CA true 1 20 [.bs 10 0,.bn 1] d (.ok .bk d):=by
  apply nx dJ rfl rfl;fail"%4>AJ)&$',b$$'6&$'e'++"
 apply rt fQ rfl rfl;fail"%27$''*$'%2_&$'Yz$$$5L"
theorem CT(h1:d.ed 10 0=ap (Bd g k))(h2:d.ed 43 k=ap (.dG []))(b:∀m,CA true 3 23 [.bs 10 0,.bs 15 q,.gg false,.gg true] d (.ok (.bs 9 (d.gz 9)) m)->m.ed 9 (d.gz 9)=ap (jD q 0)->Fr [9,43] d m->P):P:=by have c1:=CX (lp:=true) (d:=d) (ks:=("node" :h9).cps.q6) (rd:=false) (wt:=true);have a:Fr [9] d ((d.hM 9 (.qD [(19,.J6 ("node" :h9).cps.q6),(21,.gg false),(22,.gg true),(23,.bn 1),(24,.bn 0),(25,.bk),(26,.bk),(27,.bn 0)])).fC 9 (d.gz 9) (jD q 0)):=.fC rfl (.hM rfl .hJ);have c:=CY (f:=d.gz 9) (Fr.at a h1 rfl) (Fr.at a h2 rfl);refine b (((d.hM 9 (.qD [(19,.J6 ("node" :h9).cps.q6),(21,.gg false),(22,.gg true),(23,.bn 1),(24,.bn 0),(25,.bk),(26,.bk),(27,.bn 0)])).fC 9 (d.gz 9) (jD q 0)).fC 43 k (.dG ([] ++[.bs 9 (d.gz 9)]))) ?_ ((a_ rfl).trans mx) (.fC rfl (a.hA rfl));apply rt dI rfl rfl;fail"%9";apply xk;fail"Y'";(apply CA.up;exact c1;rfl);fail"%3('";exact aK;fail"'05C7";exact(Fr.at a h1 rfl);rfl;rfl;(apply CA.up;exact c;rfl)
theorem HT(X:LS d ob cC cs c 0 kn sh)(O:Op d Z D [] 0)(F:tD D (!sh) 0 [])(ht:d.ed 28 0=ap (.di []))(eg:Z.g=0)(p:d.gz 7=0)(r:d.gz 10=0)(y:d.gz 44=0)
  (z:∀m q j f k,(∀{s8 fl aL s},SB true 22 (gE [.bs 109 0,.bs 108 0,.gg sh,.bs 13 0,.bs 16 0,.bs 50 kn,.bs 10 0,.bs 9 f]) m s8 fl aL s->SB true 22 (gE [.bs 109 0,.bs 108 0,.gg sh,.bs 13 0,.bs 16 0,.bs 50 kn]) d (jr 5::jr 6::s8) fl aL s)->
   LS m ob cC cs c 0 kn sh->TW m Z D (!sh) 0 q j f k 1 []->P):P:=by
 obtain⟨g,nb,w,fl,S,T,kp,U,W⟩:=Z;obtain rfl:g=0:=eg;refine Al (lp:=true) (d:=d) p λm1 c1 a=>?_;have h:Fr [44] m1 (m1.hM 44 (.di [])):=.hM rfl .hJ;have A:=(a.go 44 rfl).2.trans y;refine Au (lp:=true) (g:=0) (d:=m1.hM 44 (.di [])) ((h.go 10 rfl).2.trans ((a.go 10 rfl).2.trans r)) λn k B h3 h4 C=>?_;have o:Fr [7,51,44,10,43] d n:=(a.hA rfl).trans ((h.hA rfl).trans (C.hA rfl));have E:=O.fr a rfl;have t:=O.fr o rfl;have G:(m1.hM 44 (.di [])).gz 10=0:=(h.go 10 rfl).2.trans ((a.go 10 rfl).2.trans r);have H:SS true 22 (gE [.bs 109 0,.bs 108 0,.gg sh,.bs 13 0,.bs 16 0,.bs 50 kn]) d (jr 5) .nx (gE [.bs 109 0,.bs 108 0,.gg sh,.bs 13 0,.bs 16 0,.bs 50 kn,.bs 10 0]) n:=
  SS.as (GP (EL.d2 xi (EL.d2 (GP (EL.d2 xi EL.iv) rfl p (c1.up rfl)) (EL.d2 (xv rfl rfl) (EL.d2 (EX.ev (xv rfl rfl) E.ob rfl) (EL.d2 (EX.as (EX.Ed (ce:=44)) (b5 (V.bs 44) A)) (EL.d2 xi EL.iv)))))) rfl G (B.up rfl)) TG.wQ
 have u:=X.fr o rfl;refine tW (I:=1) t av av (Fr.at o ht rfl) rfl (a5.ri _) (by show dK (D 10) 24 _ _ _ _ _ _;rw[F.row];exact jW) (by decide) (by decide) (by decide) av (pf av) (pf av) (pf av) λv q j J K L Y _ _ _ b=>?_;refine CT (q:=q) (Fr.at b h3 rfl) (Fr.at b h4 rfl) λx M h5 e=>?_;have N:∀l:am V,(Fe sh [iV 1] [iV 1,iV 2]:am V)[0]?=ap (iV 1):=λ_=>by cases sh<;>rfl
 have Q:SS true 22 (gE [.bs 109 0,.bs 108 0,.gg sh,.bs 13 0,.bs 16 0,.bs 50 kn,.bs 10 0]) n (jr 6) .nx (gE [.bs 109 0,.bs 108 0,.gg sh,.bs 13 0,.bs 16 0,.bs 50 kn,.bs 10 0,.bs 9 (v.gz 9)]) x:=
  SS.as (mn rfl h3 rfl (EL.d2 (mn rfl t.ob rfl (EL.d2 (EX.Kj (xv rfl rfl) xi (bD.dG (i:=0) u.N (N []) av)) EL.iv) (J.up rfl)) (EL.d2 xb (EL.d2 xb EL.iv))) (M.up rfl)) TG.wQ
 exact z x q j (v.gz 9) k (λR=>SB.d2 H (SB.d2 Q R)) ((u.fr b rfl).fr e rfl) ⟨K.fr e rfl,F,L.fr e rfl,h5,Fr.at e (Fr.at b h3 rfl) rfl⟩
end
section
variable{d m:H}{ob:Do}{cC cs:am b0}{c:b0}{k kn q j f:a5}{sh:ct}{P:Prop}{Z:Mt}{D:Oc}{vs:am V}{Io:ct}{cc:a5}{hh:b0}{l:am cy}
theorem TW.fr{S:am a5}(T:TW d Z D Io cc q j f k hh l)(h:Fr S d m)(e:A6 S (9::10::15::29::G8)=true):TW m Z D Io cc q j f k hh l:=by have z:=A6.py e;refine⟨?_,T.X,T.N.fr h (by rw[z 15 rfl,z 29 rfl];rfl),Fr.at h T.hf (z 9 rfl),Fr.at h T.ht (z 10 rfl)⟩;refine T.O.fr h (am.nw.ow λt y=>am.nw.mp e t y |>λw=>?_);refine(ct.not_eq_true' _).ow (ct.sA.ow λI=>?_);have a:=(ct.not_eq_true' _).mp w;rw[am.fA.ow (.sy _ (.sy _ (.sy _ (.sy _ (am.fA.mp I)))))]at a;exact mj a
theorem IW(a:vs.ah=18):∀{l3:am V},(∀v,v∈l3->∃i:a5,v=.bn i)->∃o:am cy,bH 22 (λZ=>Fw) 15 (.b .s0 (.c (.bn 1)) (.b .Mod (.v 15) (.c (.bn 250)))) [] vs l3 d (o.hC bI) d/\o.ah=l3.ah:=by
 intro b
 induction b with
 |iv=>exact λZ=>⟨[],.iv trivial,rfl⟩
 |d2 v l3 c=>
  intro h;refine aN (h v (.sk _)) λi e=>?_;subst e;obtain⟨o,f,h1⟩:=c λv z=>h v (.sy _ z);have g:=a5.mod_lt i (by decide:0<250);have j:bI (cy.kP (1+i % 250))=.bn (1+(i:b0) % 250):=b5 (λ(x:a5)=>V.bn x) (a5.Ik (a5.ew (a5.KB g 1) av));refine⟨cy.kP (1+i % 250)::o,.m0 trivial EA.iv ?_ f,b5 a5.Fy h1⟩;rw[j];exact EX.bin xi (EX.bin (xv (ab (am.Im (by rw[a];decide)) rfl) rfl) xi (au.mod (by decide))) au.add
theorem IV(a:vs.ah=18):∀{l3:am V},(∀v,v∈l3->∃i:a5,v=.bn i)->∃o:am cy,bH 22 (λZ=>Fw) 16 (.b .Sub (.c (.bn 255)) (.b .Mod (.v 16) (.c (.bn 250)))) [] vs l3 d (o.hC bI) d/\o.ah=l3.ah:=by
 intro b
 induction b with
 |iv=>exact λZ=>⟨[],.iv trivial,rfl⟩
 |d2 v l3 c=>
  intro h;refine aN (h v (.sk _)) λi e=>?_;subst e;obtain⟨o,f,h1⟩:=c λv z=>h v (.sy _ z);have j:=a5.mod_lt i (by decide:0<250);have g:bI (cy.kP (255 - i % 250))=.bn (255 - (i:b0) % 250):=(b5 (λ(x:a5)=>V.bn x) (a5.Ik (show 255 - i % 250<256 by omega))).trans (b5 V.bn (by omega));refine⟨cy.kP (255 - i % 250)::o,.m0 trivial EA.iv ?_ f,b5 a5.Fy h1⟩;rw[g];exact EX.bin xi (EX.bin (xv (ab (am.Im (by rw[a];decide)) rfl) rfl) xi (au.mod (by decide))) au.Kj
theorem vp{n:a5}:∀v,v∈jo 0 1 n->∃i:a5,v=.bn i:=λv a=>(am.JQ.mp a).ef λi q=>⟨i,by refine(q.2.symm).trans ?_;rw[b0.one_mul,b0.pt]⟩
theorem HS(X:LS d ob cC cs c 0 kn sh)(T:TW d Z D Io cc q j f k hh l)
  (e:∀m k' b o,(∀{s8 fl aL v},SB true 22 (gE [.bs 109 0,.bs 108 0,.gg sh,.bs 13 0,.bs 16 0,.bs 50 kn,.bs 10 0,.bs 9 f,.d3 b,.d3 o]) m s8 fl aL v->SB true 22 (gE [.bs 109 0,.bs 108 0,.gg sh,.bs 13 0,.bs 16 0,.bs 50 kn,.bs 10 0,.bs 9 f]) d (jr 7::jr 8::s8) fl aL v)->
   LS m ob cC cs c k' kn sh->k'<=2->TW m Z D Io cc q j f k hh l->b.ah<=Fe sh 0 119->0<o.ah->o.ah<=Fe sh 20 200->P):P:=by
 have A:∀{P:Prop},(∀m1 k1 (n:a5),EX true 22 (gE [.bs 109 0,.bs 108 0,.gg sh,.bs 13 0,.bs 16 0,.bs 50 kn,.bs 10 0,.bs 9 f]) d (.qC (.v 3) (.c (.bn 0)) (.f 116 [.v 2,.c (.bn 120)])) (.ok (.bn n) m1)->LS m1 ob cC cs c k1 kn sh->k1<=1->n<=Fe sh 0 119->Fr [108] d m1->P)->P:=λ{P} e=>by
  cases sh with
  |true=>exact e d 0 0 (EX.gV (ET.rE rfl (xv rfl rfl)) rfl xi) X (by decide) (by decide) .hJ
  |false=>
   refine hF (ol:=120) X.B (by decide) (by decide) λm1 n c1 hn B1 i=>?_;exact e m1 1 n (EX.bu (ET.rE rfl (xv rfl rfl)) rfl (EX.ng (EL.d2 (xv rfl rfl) (EL.d2 xi EL.iv)) (c1.up rfl))) (X.box i B1 rfl) (a5.i3 _) (a5.F6 hn) i
 refine A λm1 k1 n B C p hn i=>?_;have s:n<=119:=a5.bb hn (by cases sh<;>decide);obtain⟨b,E,hb⟩:=IW (d:=m1) (vs:=gE [.bs 109 0,.bs 108 0,.gg sh,.bs 13 0,.bs 16 0,.bs 50 kn,.bs 10 0,.bs 9 f]) rfl (l3:=jo 0 1 n) vp;rw[fh]at hb;have t:Fr [52] m1 (m1.hM 52 (.dG (b.hC bI))):=.hM rfl .hJ;have w:SS true 22 (gE [.bs 109 0,.bs 108 0,.gg sh,.bs 13 0,.bs 16 0,.bs 50 kn,.bs 10 0,.bs 9 f]) d (jr 7) .nx (gE [.bs 109 0,.bs 108 0,.gg sh,.bs 13 0,.bs 16 0,.bs 50 kn,.bs 10 0,.bs 9 f,.d3 b]) (m1.hM 52 (.dG (b.hC bI))):=
  SS.as (EX.bi (EL.d2 (EX.lc (ce:=52) (IT.er (EL.d2 B EL.iv) (rG.one (Br (a5.bb s (by decide))))) (by show(jo 0 1 n).ah<=_;rw[fh];exact a5.bb s av) E) EL.iv) (bJ.uP aK (by rw[hb];exact a5.bb s av))) TG.wQ
 have h:=C.fr t rfl;generalize N:m1.hM 52 (.dG (b.hC bI))=m2 at w h t;have F:∀{P:Prop},(∀m1 k1 (n:a5),EX true 22 (gE [.bs 109 0,.bs 108 0,.gg sh,.bs 13 0,.bs 16 0,.bs 50 kn,.bs 10 0,.bs 9 f,.d3 b]) m2 (.b .s0 (.c (.bn 1)) (.f 116 [.v 2,.qC (.v 3) (.c (.bn 20)) (.c (.bn 200))])) (.ok (.bn n) m1)->LS m1 ob cC cs c k1 kn sh->k1<=2->0<n->n<=Fe sh 20 200->Fr [108] m2 m1->P)->P:=λ{P} e=>by
  cases sh with
  |true=>
   refine hF (ol:=20) h.B (a5.bb p av) (by decide) λa n c1 hn B1 g=>?_;exact e a (k1+1) (1+n) (EX.bin xi (EX.ng (EL.d2 (xv rfl rfl) (EL.d2 (EX.gV (ET.rE rfl (xv rfl rfl)) rfl xi) EL.iv)) (c1.up rfl)) au.add) (h.box g B1 rfl) (a5.JV p) (a5.f0 _ _) (by show 1+n<=20;omega) g
  |false=>
   refine hF (ol:=200) h.B (a5.bb p av) (by decide) λa n c1 hn B1 g=>?_;exact e a (k1+1) (1+n) (EX.bin xi (EX.ng (EL.d2 (xv rfl rfl) (EL.d2 (EX.bu (ET.rE rfl (xv rfl rfl)) rfl xi) EL.iv)) (c1.up rfl)) au.add) (h.box g B1 rfl) (a5.JV p) (a5.f0 _ _) (by show 1+n<=200;omega) g
 refine F λa k3 u G H I h0 x g=>?_;have y:u<=200:=a5.bb x (by cases sh<;>decide);obtain⟨o,J,r⟩:=IV (d:=a) (vs:=gE [.bs 109 0,.bs 108 0,.gg sh,.bs 13 0,.bs 16 0,.bs 50 kn,.bs 10 0,.bs 9 f,.d3 b]) rfl (l3:=jo 0 1 u) vp;rw[fh]at r;have z:Fr [53] a (a.hM 53 (.dG (o.hC bI))):=.hM rfl .hJ;have K:SS true 22 (gE [.bs 109 0,.bs 108 0,.gg sh,.bs 13 0,.bs 16 0,.bs 50 kn,.bs 10 0,.bs 9 f,.d3 b]) m2 (jr 8) .nx (gE [.bs 109 0,.bs 108 0,.gg sh,.bs 13 0,.bs 16 0,.bs 50 kn,.bs 10 0,.bs 9 f,.d3 b,.d3 o]) (a.hM 53 (.dG (o.hC bI))):=
  SS.as (EX.bi (EL.d2 (EX.lc (ce:=53) (IT.er (EL.d2 G EL.iv) (rG.one (Br (a5.bb y (by decide))))) (by show(jo 0 1 u).ah<=_;rw[fh];omega) J) EL.iv) (bJ.uP aK (by rw[r];exact a5.bb y av))) TG.wQ
 have L:=((T.fr i rfl).fr t rfl |>.fr g rfl).fr z rfl;exact e _ k3 b o (λM=>SB.d2 w (SB.d2 K M)) (H.fr z rfl) I L (hb▸hn) (r▸h0) (r▸x)
end
def wA(n Q:a5)(wh:ct):am a5:=Fe wh [n] [min n (48*Q),min n (48*(Q+1))]
structure jO(m:H)(sh:ct)(b o:am cy)(im:V)(gn:a5)(wh:ct)(Y:Mt):Prop where
 D:aS m Y
 D9:Y.nb=qu sh
 eg:Y.g=0
 G3:Y.bA.ah<=7
 how:(wh=true/\im=.bn o.ah/\gn=o.ah)\/(wh=false/\im=.bk/\gn % 48=0/\gn<o.ah)
 yp:∀r,r.GT Y.bA->(∃ii N c n,rA (qu sh) (GS r Y.hT) ii N/\tD ii (!sh) c (b++o.m0 n)/\n∈wA o.ah (gn/48) wh)/\∀n,(GS r Y.hT n).ah=48
section
variable{d m:H}{ob:Do}{cC cs:am b0}{c:b0}{k k2 kn q j f:a5}{sh:ct}{P:Prop}{Z Y:Mt}{D:Oc}{b o:am cy}{L1 L2:bS a5}
theorem Fz{n:a5}(h:n<=Fe sh 20 336)(i:a5)(hi:48*i<n):gG i<qu sh:=by
 cases sh with
 |true=>
  have h:n<=20:=h;obtain rfl:i=0:=by omega
  decide
 |false=>
  have h:n<=336:=h;show gG i<32;rcases rm i with⟨a,e⟩ |⟨a,e⟩<;>rw[e] <;>omega
theorem Cy{i:a5}(F:Off m 0 (qu sh) L1 L2 Y (!sh) q f b o i):jO m sh b o .bk (48*i) false Y:=by
 refine⟨F.D,F.D9,F.eg,F.G3,.wl ⟨rfl,rfl,by omega,F.lt⟩,λr a=>⟨?_,(F.yp r a).2⟩⟩;obtain⟨ii,N,cc,t,s1,c,d⟩:=(F.yp r a).1;have e:48*i/48=i:=by omega
 rw[e];have g:o.m0 t=o.m0 (min o.ah t):=by
  by_cases z:t<=o.ah
  ·rw[a5.min_eq_right z]
  ·rw[a5.ux (by omega),am.na (by omega),am.H2]
 rw[g]at c;refine⟨ii,N,cc,_,s1,c,?_⟩;rcases d with rfl |rfl
 ·exact .sk _
 ·exact .sy _ (.sk _)
theorem Cz{cc:a5}{hh:b0}(T:TW m Z D (!sh) cc q j f k hh (b++o))(eg:Z.g=0)(en:Z.nb=qu sh):jO m sh b o (.bn o.ah) o.ah true Z:=by
 have e:∀n,10<=n->Z.hT n=D n:=λn h=>T.O.s8 h;obtain⟨B,c,r⟩:=T.O;have a:=r.F.wY;refine⟨r.F.K.D,en,eg,by rw[a];exact a5.ri _,.u0 ⟨rfl,rfl,rfl⟩,λr' d=>?_⟩;rw[a]at d;obtain rfl:=am.sublist_nil.mp d;refine⟨⟨D,[],cc,o.ah,⟨r.X.hd.trans pv.symm,.iv,a5.ri _,λY z=>bC z,λi n z=>dE z,λn h Y=>(e n h).symm⟩,?_,.sk _⟩,λn=>?_⟩
 ·rw[am.H2];exact T.X
 ·have:=r.F.K.ER n;rwa [a]at this
theorem HR(X:LS d ob cC cs c k kn sh)(hk:k<=2)(T:TW d Z D (!sh) 0 q j f k2 1 [])(eg:Z.g=0)(en:Z.nb=qu sh)(hw:Z.w<=50)(p1:Z.Dq=bk)(p2:Z.bx=bk)(hb:b.ah<=Fe sh 0 119)(h0:0<o.ah)(B:o.ah<=Fe sh 20 200)
  (g:∀m im gn wh Y k',(∀{s8 fl aL C},SB true 22 (gE [.bs 109 0,.bs 108 0,.gg sh,.bs 13 0,.bs 16 0,.bs 50 kn,.bs 10 0,.bs 9 f,.d3 b,.d3 o,im,.bn (gn:a5)]) m s8 fl aL C->SB true 22 (gE [.bs 109 0,.bs 108 0,.gg sh,.bs 13 0,.bs 16 0,.bs 50 kn,.bs 10 0,.bs 9 f,.d3 b,.d3 o]) d (jr 9::jr 10::jr 11::jr 12::s8) fl aL C)->
   LS m ob cC cs c k' kn sh->k'<=4->jO m sh b o im gn wh Y->P):P:=by
 have hL:aQ=1000000:=rfl;have l:b.ah<=119:=a5.bb hb (by cases sh<;>decide);have BS:o.ah<=200:=a5.bb B (by cases sh<;>decide);haveI n:b.ah<=aQ:=a5.bb l av;have W:∀{P:Prop},(∀m1 h D1 c1,SS true 22 (gE [.bs 109 0,.bs 108 0,.gg sh,.bs 13 0,.bs 16 0,.bs 50 kn,.bs 10 0,.bs 9 f,.d3 b,.d3 o]) d (jr 9) .nx (gE [.bs 109 0,.bs 108 0,.gg sh,.bs 13 0,.bs 16 0,.bs 50 kn,.bs 10 0,.bs 9 f,.d3 b,.d3 o]) m1->Nx Z h 7->TW m1 h D1 (!sh) c1 q j f k2 1 b->Fr Be d m1->P)->P:=λ{P} g=>by
  by_cases z:b=[]
  ·have r:(!(b==[]))=false:=by rw[z];rfl
   refine g d Z D 0 (SS.bu (ET.bo (EA.eE (ET.mc (xv rfl rfl) xy aq.HH) r)) rfl SB.iv) ⟨rfl,rfl,rfl,rfl,a5.f0 _ _⟩ (by rw[z];exact T) .hJ
  ·have r:(!(b==[]))=true:=by rw[ki.ow z];rfl
   have OJ:sh=false:=by
    cases sh with
    |true=>exact kk (am.length_eq_zero_iff.mp (a5.le_zero.mp hb)) z
    |false=>rfl
   refine uH (o:=b) (a5.bb l av) (by rw[am.IK];exact a5.bb (a5.kQ l _) av) (λi hi=>?_) (by omega) p1 p2 T λm1 h D1 c1 E x1 a s=>?_
   ·rw[en];exact Fz (by rw[OJ];show b.ah<=336;exact a5.bb l av) i (by rwa [am.IK,a5.pt]at hi)
   ·have G:=a.hf;rw[am.nil_append]at a G;refine g m1 h D1 c1 (SS.bu (ET.bo (EA.cX (ET.mc (xv rfl rfl) xy aq.HH) r (EA.eE (ET.bo (EA.cX (ET.mc (EX.ng (EL.d2 (xv rfl rfl) (EL.d2 (xv rfl rfl) (EL.d2 (xv rfl rfl) EL.iv))) (E.up rfl)) (EX.bi (EL.d2 (xv rfl rfl) EL.iv) (bJ.hG n)) aq.BZ) (GU rfl) (EA.cX (ET.mc (EX.ev (xv rfl rfl) G rfl) (EX.bi (EL.d2 (xv rfl rfl) EL.iv) (bJ.hG n)) aq.BZ) (GU rfl) EA.iv))) rfl))) rfl SB.iv) x1 a s
 refine W λm1 h D1 c1 H x1 a s=>?_;have I:=X.fr s rfl;have J:=x1.g.trans eg;have t:=x1.nb.trans en;have E:=x1.w;refine wC I.B (by omega) a.O λK L k' M e B2 LH O2 p=>?_;rw[J]at M;have N:SS true 22 (gE [.bs 109 0,.bs 108 0,.gg sh,.bs 13 0,.bs 16 0,.bs 50 kn,.bs 10 0,.bs 9 f,.d3 b,.d3 o]) m1 (jr 10) .nx (gE [.bs 109 0,.bs 108 0,.gg sh,.bs 13 0,.bs 16 0,.bs 50 kn,.bs 10 0,.bs 9 f,.d3 b,.d3 o]) K:=
  SS.ex (EX.ng (EL.d2 (xv rfl rfl) (EL.d2 (xv rfl rfl) EL.iv)) (M.up rfl))
 have O:=I.box p B2 rfl;have Q:L.g=0:=e.g.trans J;have T2:TW K L D1 (!sh) c1 q j f k2 1 b:=⟨O2,a.X,by rw[e.g];exact a.N.fr p rfl,Fr.at p a.hf rfl,by rw[e.g];exact Fr.at p a.ht rfl⟩;have aa:b.ah+o.ah<=Fe sh 20 336:=by
  cases sh with
  |true=>show _<=20;have:b.ah<=0:=hb;have:o.ah<=20:=B;omega
  |false=>show _<=336;omega
 have w2:=e.w;refine pM (o:=o) (by omega) (by omega) (λi hi=>by rw[e.nb,t];exact Fz aa i hi) (by omega) T2 (λu Z3 D3 c3 v R S w=>?_) (λu Y i v F w=>?_)
 ·have x:=S.hf;have y:V.bn (((b++o).ah:b0) - b.ah)=.bn (o.ah:a5):=b5 V.bn (by rw[am.ep];omega);refine g u (.bn o.ah) o.ah true Z3 k' (λA=>SB.d2 H (SB.d2 N (SB.d2 (SS.as (EX.ng (EL.d2 (xv rfl rfl) (EL.d2 (xv rfl rfl) (EL.d2 (xv rfl rfl) EL.iv))) (v.up rfl)) TG.wQ) (SB.d2 (SS.as (EX.as (EX.bin (EX.ev (xv rfl rfl) x rfl) (EX.bi (EL.d2 (xv rfl rfl) EL.iv) (bJ.hG n)) au.Kj) y) TG.wQ) A)))) (O.fr w rfl) (by omega) (Cz S (R.g.trans Q) (R.nb.trans (e.nb.trans t)))
 ·have x:=F.hf;have y:V.bn (((b.ah+48*i:a5):b0) - b.ah)=.bn (48*i:a5):=b5 V.bn (by omega);have U:=F;rw[Q,e.nb,t]at U;refine g u .bk (48*i) false Y k' (λA=>SB.d2 H (SB.d2 N (SB.d2 (SS.as (EX.ng (EL.d2 (xv rfl rfl) (EL.d2 (xv rfl rfl) (EL.d2 (xv rfl rfl) EL.iv))) (v.up rfl)) TG.wQ) (SB.d2 (SS.as (EX.as (EX.bin (EX.ev (xv rfl rfl) x rfl) (EX.bi (EL.d2 (xv rfl rfl) EL.iv) (bJ.hG n)) au.Kj) y) TG.wQ) A)))) (O.fr w rfl) (by omega) (Cy U)
end
abbrev qw(sh:ct)(kn f:a5)(b o:am cy)(im:V)(gn:a5):am V:=gE [.bs 109 0,.bs 108 0,.gg sh,.bs 13 0,.bs 16 0,.bs 50 kn,.bs 10 0,.bs 9 f,.d3 b,.d3 o,im,.bn (gn:a5)]
section
variable{d m:H}{ob:Do}{cC cs:am b0}{c:b0}{k k2 kn q j f:a5}{sh wh:ct}{P:Prop}{Z Y:Mt}{D:Oc}{b o:am cy}{im:V}{gn:a5}
theorem jO.fr{S:am a5}(L:jO d sh b o im gn wh Y)(h:Fr S d m)(e:(S.b6 13 ||S.b6 23 ||S.b6 24 ||S.b6 25)=false):jO m sh b o im gn wh Y:=⟨L.D.fr h e,L.D9,L.eg,L.G3,L.how,L.yp⟩
theorem Bo(L:jO d sh b o im gn wh Y){vs:am V}(a:vs[11]?=ap im):EX true 22 vs m (.mc .IsNot (.v 11) (.c .bk)) (.ok (.gg wh) m):=by
 rcases L.how with⟨rfl,rfl,_⟩ |⟨rfl,rfl,_,_⟩
 ·exact EX.mc (xv a rfl) xn (aq.vH (iD V.b4))
 ·exact EX.mc (xv a rfl) xn aq.uc
theorem HQ(X:LS d ob cC cs c k kn sh)(L:jO d sh b o im gn wh Y)(q:o.ah<=200)
  (r:∀m,(∀{s8 fl aL a},SB true 22 (qw sh kn f b o im gn) m s8 fl aL a->SB true 22 (qw sh kn f b o im gn) d (jr 13::jr 14::s8) fl aL a)->LS m ob cC cs c k kn sh->jO m sh b o im gn wh Y->P):P:=by
 haveI g:o.ah<=aQ:=a5.bb q av;have h:Fr [54] d (d.hM 54 (.dG [.bk,.bn o.ah])):=.hM rfl .hJ;have i:∀{v:V},EX true 22 (qw sh kn f b o v gn) d (.ls [.c .bk,.bi 0 [.v 10]]) (.ok (.bs 54 (d.gz 54)) (d.hM 54 (.dG [.bk,.bn o.ah]))):=EX.ls (EL.d2 xn (EL.d2 (EX.bi (EL.d2 (xv rfl rfl) EL.iv) (bJ.hG g)) EL.iv)) av;refine r (d.hM 54 (.dG [.bk,.bn o.ah])) (λj=>?_) (X.fr h rfl) (L.fr h rfl);have l:=λm=>Bo (m:=m) L (vs:=qw sh kn f b o im gn) rfl;have n:∀(e:((gn:b0)==(o.ah:b0))=wh) m,EX true 22 (qw sh kn f b o im gn) m (.mc .Eq (.v 12) (.bi 0 [.v 10])) (.ok (.gg wh) m):=λe m=>EX.as (EX.mc (xv rfl rfl) (EX.bi (EL.d2 (xv rfl rfl) EL.iv) (bJ.hG g)) aq.gW) (b5 V.gg e);have p:(!(wh==wh))=false:=by cases wh<;>rfl
 rcases L.how with⟨rfl,rfl,e⟩ |⟨rfl,rfl,e1,e2⟩
 ·refine SB.d2 (SS.bu (ET.bo (EA.cX (ET.mc (xv rfl rfl) i (aq.Ld aK)) (GU rfl) (EA.cX (ET.mc (l _) (n (eT (b5 b0.kP e)) _) aq.M6) p EA.iv))) rfl SB.iv) (SB.d2 (SS.bu (ET.bo (EA.eE (ET.mc (xv rfl rfl) xn (aq.ud (iD V.b4))) rfl)) rfl SB.iv) j)
 ·have s:(!((gn:b0) % 48==0))=false:=GU (by omega);refine SB.d2 (SS.bu (ET.bo (EA.cX (ET.mc (xv rfl rfl) i (aq.Lc aK)) rfl (EA.cX (ET.mc (l _) (n (eF (by omega)) _) aq.M6) p EA.iv))) rfl SB.iv) (SB.d2 (SS.bu (ET.bo (EA.cX (ET.mc (xv rfl rfl) xn aq.Fq) rfl (EA.eE (ET.mc (EX.bin (xv rfl rfl) xi (au.mod (by decide))) xi aq.BZ) s))) rfl SB.iv) j)
theorem IU{vs:am V}(o:vs.ah=18)(h2:∀v:V,(vs.fC 17 v)[2]?=ap (.bs 108 0)):∀{l:am a5} {d:H} {k:a5},vb d cs c k->k+l.ah<=900->∃(xs:am a5) (m:H) (k':a5),bH 22 (λZ=>Fw) 17 (.v 17) [.mc .Eq (.f 116 [.v 2,.c (.bn 2)]) (.c (.bn 0))] vs (l.hC λ(i:a5)=>V.bn (0+1*(i:b0))) d (xs.hC iV) m/\(∀x,x∈xs->x∈l)/\vb m cs c k'/\k'<=k+l.ah/\Fr [108] d m:=by
 intro p
 induction p with
 |iv=>exact λ{d k} B Z=>⟨[],d,k,.iv trivial,λZ z=>z,B,a5.i3 _,.hJ⟩
 |d2 i l q=>
  intro d k B r;rw[am.o3]at r;refine hF (ol:=2) B (by omega) av λm1 n c1 hn B1 a=>?_;obtain⟨xs,m,k',b,f,g,u,h⟩:=q B1 (by omega);have s:V.bn (0+1*(i:b0))=iV i:=b5 V.bn (by omega);have j:ET true 22 (vs.fC 17 (.bn (0+1*(i:b0)))) d (.mc .Eq (.f 116 [.v 2,.c (.bn 2)]) (.c (.bn 0))) (.ok ((n:b0)==0) m1):=ET.mc (EX.ng (EL.d2 (xv (h2 _) rfl) (EL.d2 xi EL.iv)) (c1.up rfl)) xi aq.gW;have t:(vs.fC 17 (.bn (0+1*(i:b0))))[17]?=ap (iV i):=by rw[s];exact ab (am.Im (by rw[o];decide)) rfl
  cases e:(n:b0)==0 with
  |true=>exact⟨i::xs,m,k',.m0 trivial (EA.cX j e EA.iv) (xv t rfl) b,λx z=>(am.hD.mp z).ef (λz=>z▸.sk _) λz=> .sy _ (f x z),g,by rw[am.o3];omega,a.trans h⟩
  |false=>exact⟨xs,m,k',.skip trivial (EA.eE j e) b,λx z=> .sy _ (f x z),g,by rw[am.o3];omega,a.trans h⟩
end
structure NW(m:H)(sh:ct)(b o:am cy)(gn:a5)(wh:ct)(kn c n:a5)(Z:Mt)(D:Oc):Prop where
 O:Op m Z D [] 0
 eg:Z.g=1
 D9:Z.nb=qu sh
 ht:m.ed 28 1=ap (.di [])
 X:tD D (!sh) c (b++o.m0 n)
 hn:n∈wA o.ah (gn/48) wh
 N:m.ed 50 kn=ap (.dG (Fe sh [iV 1] [iV 1,iV 2]))
section
variable{d m:H}{ob:Do}{cC cs:am b0}{c:b0}{k k2 kn q j f:a5}{sh wh:ct}{P:Prop}{Z Y:Mt}{D:Oc}{b o:am cy}{im:V}{gn:a5}
theorem HP(X:LS d ob cC cs c k kn sh)(hk:k<=4)(L:jO d sh b o im gn wh Y)
  (u:∀m Z D n cc,(∀{s8 fl aL j},SB true 22 (gE [.bs 109 0,.bs 108 0,.gg sh,.bs 13 0,.bs 16 0,.bs 50 kn,.bs 10 0,.bs 9 f,.d3 b,.d3 o,im,.bn (gn:a5),.bs 16 1]) m s8 fl aL j->SB true 22 (qw sh kn f b o im gn) d (jr 15::s8) fl aL j)->
   m.ed 99 0=ap (.fix ob (cC.hC .bn))->NW m sh b o gn wh kn cc n Z D->P):P:=by
 have hL:aQ=1000000:=rfl;have h7:=L.G3;have kz:20<=qu sh:=by cases sh<;>decide
 have v:qu sh<=32:=by cases sh<;>decide
 obtain⟨g,nb,w,fl,la,lf,kp,h,de⟩:=Y;obtain rfl:g=0:=L.eg;obtain rfl:nb=qu sh:=L.D9;have E:=L.D.q;have gd:=E.dy;have y:=E.bA;haveI i:(h.hC pr).ah<=aQ:=by rw[am.fz];have h7:h.ah<=7:=h7;omega
 obtain⟨xs,m1,k',A,B,B1,Il,C⟩:=IU (vs:=qw sh kn f b o im gn) rfl (λ_=>rfl) (l:=am.range h.ah) X.B (by rw[am.length_range];have h7:h.ah<=7:=h7;omega);have p:Fr [46] m1 (m1.hM 46 (.dG (xs.hC iV))):=.hM rfl .hJ;have q:Fr [108,46] d (m1.hM 46 (.dG (xs.hC iV))):=(C.hA rfl).trans (p.hA rfl);have a:LS (m1.hM 46 (.dG (xs.hC iV))) ob cC cs c k' kn sh:=X.box q (B1.fr p rfl) rfl;have F:=L.D.fr q rfl;have hn:∀{x},x∈xs->x<h.ah:=λz=>am.mem_range.mp (B _ z);refine C8 (k:=m1.gz 46) F kz h7 (λx z=>hn z) aK λG r s Pd e=>?_;have H:=a.Me;rw[H]at r s;have I:tv G 1:=⟨(e 12 rfl).2.trans a.C.Kt,(e 14 rfl).2.trans a.C.Md,(e 16 rfl).2.trans a.C.Mc,(e 17 rfl).2.trans a.C.Ks,(e 20 rfl).2.trans a.C.Mb,(e 21 rfl).2.trans a.C.Ma,(e 28 rfl).2.trans a.C.L_,(e 11 rfl).2.trans (a.C.xj.trans (e 22 rfl).2.symm)⟩;obtain⟨⟨ii,N,cc,n,J,K,M⟩,O⟩:=L.yp (sel xs h 0) BC;refine pO (Z:=Mt.nu 1 (qu sh) (GS (sel xs h 0) kp)) s rfl rfl rfl rfl O kz v (by show 0+40<=aQ;omega) J I λQ S T R U V _ _ t=>?_;have W:bH 22 (λ_=>Fw) 17 (.v 17) [.mc .Eq (.f 116 [.v 2,.c (.bn 2)]) (.c (.bn 0))] (qw sh kn f b o im gn) (jo 0 1 (h.hC pr).ah) d (xs.hC iV) m1:=by rw[am.fz];exact A
 have OT:(jo 0 1 (h.hC pr).ah).ah<=1000000:=by rw[fh];exact i
 have sm:=Br (a5.bb i av);have lc:EX true 22 (qw sh kn f b o im gn) d (.lc (.v 17) 17 (.er [.bi 0 [.a (.v 4) 63]]) [.mc .Eq (.f 116 [.v 2,.c (.bn 2)]) (.c (.bn 0))]) (.ok (.bs 46 (m1.gz 46)) (m1.hM 46 (.dG (xs.hC iV)))):=EX.lc (IT.er (EL.d2 (EX.bi (EL.d2 (EX.ev (xv rfl rfl) gd rfl) EL.iv) (bJ.jq y i)) EL.iv) (rG.one sm)) OT W;exact u Q S ii n cc (λhr=>SB.d2 (SS.as (EX.ng (EL.d2 (xm (xv rfl rfl) gd rfl (EL.d2 lc EL.iv) (r.up rfl)) EL.iv) (T.up rfl)) TG.wQ) hr) (t.at (e.at a.Iw rfl) rfl) ⟨U,R.g,R.nb,V,K,M,t.at (e.at a.N rfl) rfl⟩
end
abbrev wI(sh:ct)(kn f:a5)(b o:am cy)(im:V)(gn:a5):am V:=gE [.bs 109 0,.bs 108 0,.gg sh,.bs 13 0,.bs 16 0,.bs 50 kn,.bs 10 0,.bs 9 f,.d3 b,.d3 o,im,.bn (gn:a5),.bs 16 1]
section
variable{d m:H}{ob:Do}{cC cs:am b0}{c:b0}{k k2 kn q j f cc n Q:a5}{sh wh:ct}{P:Prop}{Z Y:Mt}{D:Oc}{b o:am cy}{im:V}{gn:a5}
theorem Jf:CA true 1 144 [.bn n,.bn Q,.gg wh] d (.ok (.bs 47 (d.gz 47)) (d.hM 47 (.dG ((wA n Q wh).hC iV)))):=by
 cases wh with
 |true=>exact Gf
 |false=>exact Ge
theorem si{i:a5}(h:i=0\/(i=1/\sh=false)):(Fe sh [iV 1] [iV 1,iV 2]:am V)[i]?=ap (iV (i+1)):=by
 rcases h with rfl |⟨rfl,rfl⟩
 ·cases sh<;>rfl
 ·rfl
theorem EZ:dK (eR zb 0 2 1 0 0 0 0) 0 2 1 0 0 0 0:=⟨⟨rfl,rfl⟩,⟨rfl,rfl⟩,⟨rfl,rfl⟩,⟨rfl,rfl⟩,⟨rfl,rfl,rfl,rfl⟩,⟨rfl,rfl,rfl,rfl⟩,⟨rfl,rfl,rfl,rfl⟩,⟨rfl,rfl,rfl,rfl⟩⟩
theorem HO(A:NW d sh b o gn wh kn cc n Z D)(how:(wh=true/\im=.bn o.ah/\gn=o.ah)\/(wh=false/\im=.bk/\gn % 48=0/\gn<o.ah))(hb:b.ah<=Fe sh 0 119)(y:o.ah<=Fe sh 20 200):∃m vs,SB true 22 (wI sh kn f b o im gn) d [jr 16,jr 17,jr 18] (.rt (.gg true)) vs m/\m.ed 99 0=d.ed 99 0:=by
 have R:b.ah<=119:=a5.bb hb (by cases sh<;>decide);have S:o.ah<=200:=a5.bb y (by cases sh<;>decide);haveI ub:b.ah<=aQ:=a5.bb R av;haveI T:o.ah<=aQ:=a5.bb S av;have eg:=A.eg;have tl:(b++o.m0 n).ah<=Fe sh 20 336:=by
  rw[am.ep,am.w1];cases sh with
  |true=>show _<=20;have:b.ah<=0:=hb;have:o.ah<=20:=y;omega
  |false=>show _<=336;omega
 have p:(b++o.m0 n).ah<=336:=a5.bb tl (by cases sh<;>decide);have U:∀x,x∈wA o.ah (gn/48) wh->x<=o.ah:=λx z=>by
  cases wh with
  |true=>exact a5.mZ (am.e0.mp z)
  |false=>
   rcases am.hD.mp z with rfl |z
   ·exact a5.min_le_left ..
   ·rw[am.e0.mp z];exact a5.min_le_left ..
 have W:(wA o.ah (gn/48) wh).ah<=2:=by cases wh with |true=>exact(show 1<=2 by decide) |false=>exact a5.i3 2
 have r:Fr [47] d (d.hM 47 (.dG ((wA o.ah (gn/48) wh).hC iV))):=.hM rfl .hJ;have X:EX true 22 (wI sh kn f b o im gn) d (.mc .IsNot (.v 11) (.c .bk)) (.ok (.gg wh) d):=by
  rcases how with⟨rfl,rfl,_⟩ |⟨rfl,rfl,_,_⟩
  ·exact EX.mc (xv rfl rfl) xn (aq.vH (iD V.b4))
  ·exact EX.mc (xv rfl rfl) xn aq.uc
 have c1:=Jf (d:=d) (n:=o.ah) (Q:=gn/48) (wh:=wh);refine CQ (k:=d.gz 47) (b:=b) (o:=o) (A.O.fr r rfl) A.X (Fr.at r (by rw[eg];exact A.ht) rfl) p (λi hi=>by rw[A.D9];exact Fz tl i hi) (by omega) (by omega) aK U W ⟨n,A.hn,rfl⟩ λg q j B s C t Y f2=>?_;rw[eg]at B t;have u:Fr (47::49::48::xt) d g:=(r.hA rfl).trans (f2.hA rfl);have h:=Fr.at u A.N rfl;have E:SS true 22 (wI sh kn f b o im gn) d (jr 16) .nx (wI sh kn f b o im gn) g:=
  SS.bu (ET.not (ET.rE rfl (EX.ng (EL.d2 (xv rfl rfl) (EL.d2 (EX.Kj (xv rfl rfl) xi (bD.dG (i:=0) A.N (si (.u0 rfl)) (by decide))) (EL.d2 (xv rfl rfl) (EL.d2 (xv rfl rfl) (EL.d2 (EX.ng (EL.d2 (EX.bi (EL.d2 (xv rfl rfl) EL.iv) (bJ.hG T)) (EL.d2 (EX.bin (xv rfl rfl) xi (au.fdiv (by decide) (by decide))) (EL.d2 X EL.iv))) (c1.up rfl)) EL.iv))))) (B.up rfl)))) rfl SB.iv
 have F:A_ cc<=Z.nb - 13:=by
  rw[A.D9];have low:=A.X.low;cases sh with
  |true=>
   have tl:(b++o.m0 n).ah<=20:=tl;rw[nN (by omega)];show cc<=20 - 13;omega
  |false=>exact a5.bb (yS A.X.B.le) (by decide)
 have G:Z.nb<=32:=by rw[A.D9];cases sh<;>decide
 cases sh with
 |true=>
  refine vR (tl:=[((1:a5),.bs 15 q)]) (q:=q) s A.X (by rw[eg];exact t) qp C G F p λa e l=>?_;rw[eg]at e;exact⟨a,_,SB.d2 E (SB.d2 (SS.bu (ET.bo (EA.eE (ET.not (ET.rE rfl (xv rfl rfl))) rfl)) rfl SB.iv) (SB.rt (SS.rt (EX.ng (EL.d2 (xv rfl rfl) (EL.d2 (EX.Kj (xv rfl rfl) xi (bD.dG (i:=0) h (si (.u0 rfl)) (by decide))) EL.iv)) (e.up rfl))))),Gc ((l.go 99 rfl).1.trans (u.go 99 rfl).1) 0⟩
 |false=>
  have e2:bY [(((1:a5):b0),V.bs 15 q)] ((2:a5):b0)=bk:=rfl;refine tW (I:=2) (tl:=[((1:a5),.bs 15 q)]) s (by decide) (by decide) (by rw[eg];exact t) e2 (show 1<=3 by decide) (by show dK (D 11) 0 _ _ _ _ _ _;rw[A.X.sec rfl];exact EZ) (by decide) (by decide) (by decide) (by decide) (by decide) (by decide) (by decide) λa q2 c e v H w ON Pd OP l=>?_;have ne:q≠q2:=by rw[ON,Y];exact a5.sK (a5.wS _)
  have n3:=(OP q ne).trans C;have a2:bY (ee [(((1:a5):b0),V.bs 15 q)] ((2:a5):b0) (.bs 15 q2)) ((2:a5):b0)=ap (.bs 15 q2):=rfl;have a1:bY (ee [(((1:a5):b0),V.bs 15 q)] ((2:a5):b0) (.bs 15 q2)) ((1:a5):b0)=ap (.bs 15 q):=rfl;have J:=Ao (I:=2) v.x (by decide) (by decide) w a2 H.K1;rw[eg]at e J w;have K:Fr [15] a (a.fC 15 q2 (bg 1 2 c (1+1) 2 1 0)):=.fC rfl .hJ;have L:Fr [55,56] (a.fC 15 q2 (bg 1 2 c (1+1) 2 1 0)) (((a.fC 15 q2 (bg 1 2 c (1+1) 2 1 0)).hM 55 (.dG [.bn 2,.bn 0])).hM 56 (.dG [.bn 2,.bn 0])):=.hM rfl (.hM rfl .hJ);have O5:=(v.fr K rfl).fr L rfl;have g3:a.ed 15 q2=ap (bg 1 2 c 1 2 1 0):=by have:=H.K1;rwa [eg]at this
  have n5:(((a.fC 15 q2 (bg 1 2 c (1+1) 2 1 0)).hM 55 (.dG [.bn 2,.bn 0])).hM 56 (.dG [.bn 2,.bn 0])).ed 15 q=ap (bg Z.g 1 j 1 2 1 (b++o.m0 n).ah):=(bz rfl).trans ((bz rfl).trans ((fM ne).trans n3));have t5:(((a.fC 15 q2 (bg 1 2 c (1+1) 2 1 0)).hM 55 (.dG [.bn 2,.bn 0])).hM 56 (.dG [.bn 2,.bn 0])).ed 28 Z.g=ap (.di (ee [(((1:a5):b0),V.bs 15 q)] ((2:a5):b0) (.bs 15 q2))):=by rw[eg];exact(bz rfl).trans ((bz rfl).trans ((a_ rfl).trans w))
  have M:Fr (55::56::xt) g (((a.fC 15 q2 (bg 1 2 c (1+1) 2 1 0)).hM 55 (.dG [.bn 2,.bn 0])).hM 56 (.dG [.bn 2,.bn 0])):=(l.hA rfl).trans ((K.hA rfl).trans (L.hA rfl));have PF:=Fr.at l h rfl;refine vR (q:=q) O5 A.X t5 a1 n5 G F p λm6 N f6=>?_;rw[eg]at N;have N5:=Fr.at M h rfl;have O:=s.ob;rw[eg]at O;have P:=v.ob;rw[eg]at P;have Oq:SS true 22 (wI false kn f b o im gn) g (jr 17) .nx (wI false kn f b o im gn) (((a.fC 15 q2 (bg 1 2 c (1+1) 2 1 0)).hM 55 (.dG [.bn 2,.bn 0])).hM 56 (.dG [.bn 2,.bn 0])):=
   SS.bu (ET.bo (EA.cX (ET.not (ET.rE rfl (xv rfl rfl))) rfl (EA.eE (ET.mc (EX.ls (ce:=55) (EL.d2 (EX.ev (xm (xv rfl rfl) O rfl (EL.d2 (EX.Kj (xv rfl rfl) xi (bD.dG (i:=1) h (si (.wl ⟨rfl,rfl⟩)) (by decide))) EL.iv) (e.up rfl)) g3 rfl) (EL.d2 (EX.ev (xm (xv rfl rfl) P rfl (EL.d2 (EX.Kj (xv rfl rfl) xi (bD.dG (i:=1) PF (si (.wl ⟨rfl,rfl⟩)) (by decide))) EL.iv) (J.up rfl)) mx rfl) EL.iv)) (a5.ft rfl)) (EX.ls (ce:=56) (EL.d2 gi (EL.d2 xi EL.iv)) (a5.ft rfl)) (aq.Lg ((bz rfl).trans aK) aK)) rfl))) rfl SB.iv
  exact⟨m6,_,SB.d2 E (SB.d2 Oq (SB.rt (SS.rt (EX.ng (EL.d2 (xv rfl rfl) (EL.d2 (EX.Kj (xv rfl rfl) xi (bD.dG (i:=0) N5 (si (.u0 rfl)) (by decide))) EL.iv)) (N.up rfl))))),Gc ((f6.go 99 rfl).1.trans ((M.go 99 rfl).1.trans (u.go 99 rfl).1)) 0⟩
end
section
variable{d:H}{cC:am b0}{ob:Do}
theorem za(h:d.ed 99 0=ap (.fix ob (cC.hC .bn)))(G:cC.ah<=1000)(z:∀t,t≠99->d.gz t=0):∃m,CA true 23 134 [.bs 99 0] d (.ok (.gg true) m)/\m.ed 99 0=ap (.fix ob (cC.hC .bn)):=by
 refine HV h G z λm1 cs c sh p1 B1 k=>?_;have l:∀t,t≠99->t≠108->t≠109->m1.gz t=0:=λt a b c=>(k.go t (ct.sA.ow λy=>by
  rcases am.hD.mp (am.fA.mp y)with e |y
  ·exact b e
  ·exact c (am.e0.mp y))).2.trans (z t a)
 refine HU (sh:=sh) (Fr.at k h rfl) B1 l λH Z D kn p2 p I r J eg en K L M N=>?_;have i:∀t,MB.b6 t=false->t≠99->t≠108->t≠109->H.gz t=0:=λt a b c Q=>(N t a).2.trans (l t b c Q);refine HT p I r J eg (i 7 rfl (by decide) (by decide) (by decide)) (i 10 rfl (by decide) (by decide) (by decide)) (i 44 rfl (by decide) (by decide) (by decide)) λm3 q j f k3 s u v=>?_;refine HS u v λm4 k4 b o w x O A hb h0 g=>?_;refine HR x O A eg en K L M hb h0 g λm5 im gn wh Y k5 B C P E=>?_;have R:o.ah<=200:=a5.bb g (show(Fe sh 20 200:a5)<=200 by clear p1 p2 p r en s u v w x A hb g B C E;cases sh<;>decide);refine HQ (f:=f) C E R λm6 S T F=>?_;refine HP (f:=f) T P F λm7 Z7 D7 n cc U Iw V=>?_;obtain⟨W,vs,X,e8⟩:=HO (f:=f) (im:=im) V F.how hb g;exact⟨W,rt zK rfl rfl (p1 (p2 (s (w (B (S (U X))))))),e8.trans Iw⟩
end
end Internal.K
end
section
namespace Internal
open Tactic
def Lk(bZ:mS)(w:tq)(hE:d4)(K:Frag)(s:a6):Wd:=⟨bZ,w,hE,K,CM,tc,me,s.gens,s.drawn,s.os,bk,Fw⟩
end Internal
end
section
namespace Internal
theorem yC{bZ:mS}{w:tq}{t:xE a8.Fin}{s:a6}{R:r3->a6->Prop}(c:s.asleep)
  (h:ch (dd bZ w) callerA t (λa s'=>∃f,a=.done f/\(R (.ok f) s'/\GV s'.gens=false)) (λe s'=>R (.B3 e) s'/\GV s'.gens=false) s):
  ∃n r s' b,runN (denote table) bZ w n s ⟨t,.eu "claim.caller" {},yT,[]⟩=.halted (outcomeOf r) s'/\
   schedN (denote table) bZ w n (.single s ⟨t,.eu "claim.caller" {},yT,[]⟩)=.halted (outcomeOf r) s'/\s'.forget=b.forget/\R r b:=by haveI h0:=h.go ⟨.eu "claim.caller" {},bk,bk,[],bk⟩ yT caller_in (by decide+kernel) (λx d=>by cases d);refine xM (wp_halts_full c (xE.wp_mono _ _ _ (λa p' s' h'=>by obtain⟨f,rfl,hf⟩:=h';exact hf) (λZ Z Z h'=>h') yT s h0)) λn r g i hs hn j k=>?_;exact⟨n,r,i,g,hn,hs,j,k⟩
abbrev OwnWalk(q:mS)(zm:am h9)(XP:(h9->bS a9)->d4->Prop)(YP:tq->d4->Prop)(r:RowW)(Q:DefRec)(g:am (h9×fY)):Prop:=
 ∀(w:tq) (c d:a6) (e f:h9->bS a9),Ground q zm r.records XP w c e f d.bh->YP w c.bh->(∀b o,c.bh.ck b=ap o->d.bh.ck b=ap o)->∀a:e9,e Q.wQ=ap (.bs a)->d.gens= #[]->
  ∀(ci:am WData) (db:am a9) (as:am e9),r.claim.su ci=true->WData.layableAll ci=true->ReadsAllW r.records (classAt c.bh) d.bh db ci as->(∀b∈as,(∃o,d.bh.ck b=ap o)/\c.bh.kq.hN<=b)->
   ch (dd r.bZ w) callerA (a8.ng (.bs a) db) (λv s'=>GoodWG r.claim (classAt c.bh) (ExcName.means c.bh) ci d (.ok (.ret v)) s') (λZ Z=>uk) d
def MG(r:OpenRow)(s c:a6)(ci:am WData)(vs:am a9)(e:r3)(b:a6):Prop:=r.toRowW.claim.Ends s ci vs c e b/\b.os=s.os/\(r.writes=true->namesKept r.bZ r.Lx s.bh b.bh/\∀x∈r.toRowW.claim.records,∀a,classAt s.bh x.1=ap a->recordClass b.bh a x.1 (x.2.hC (·.1))=true)
theorem yB{bZ:mS}{w:tq}{s:a6}{c:h9->bS a9}{n:h9}{a:e9}{vs:am a9}{Z:a9->a6->Prop}{R:r3->a6->Prop}(T:s.bh.Ns hU c)(h1:c n=ap (.bs a))(h:ch (dd bZ w) callerA (a8.ng (.bs a) vs) Z (λY Y=>uk) s)
  (k:∀v s',Z v s'->R (.ok (.ret v)) s'/\GV s'.gens=false):ch (dd bZ w) callerA (do match←nsGet mainNs n with
   |ap f=>do ret (←a8.ng f vs)
   |bk=>J3 "claim.caller:no-such-global") (λd b=>∃f,d=.done f/\(R (.ok f) b/\GV b.gens=false)) (λe b=>R (.B3 e) b/\GV b.gens=false) s:=by exact aa (cl (wpAny_nsGet T (h1▸aa (aw h (λv b g=>af ⟨_,rfl,k v b g⟩) λY Y z=>z.ef))))
theorem wU{α β:Type}{A B:α->Prop}{C:α->β->Prop}{D L F G H:β->Prop}{P:Prop}(h:∃x,A x/\B x/\∃y,C x y/\D y/\L y/\F y/\G y/\H y)(k:∀x y,A x->B x->C x y->D y->L y->F y->G y->H y->P):P:=
 h.ef λx h=>h.2.2.ef λy z=>k x y h.1 h.2.1 z.1 z.2.1 z.2.2.1 z.2.2.2.1 z.2.2.2.2.1 z.2.2.2.2.2
theorem IM{α β γ δ d i j:Type}{A:α->Prop}{B:α->β->γ->δ->d->i->j->Prop}(h:∃a b c Q e f g,A a/\B a b c Q e f g):∃a,A a:=h.DO λZ h=>h.ef λZ h=>h.ef λZ h=>h.ef λZ h=>h.ef λZ h=>h.ef λZ h=>h.ef λZ h=>h.1
theorem BK{α β γ δ:Type}{A a B C D L b F:α->Prop}{G d H be J K ad f:β->γ->δ->Prop}(h:(∃v,A v/\B v/\C v/\D v/\L v/\F v)\/∃e o c,G e o c/\H e o c/\be e o c/\J e o c/\K e o c/\ad e o c)(k1:∀v,A v->a v)(k2:∀v,L v->b v)(m1:∀e o c,G e o c->d e o c)(g:∀e o c,ad e o c->f e o c):(∃v,a v/\B v/\C v/\D v/\b v/\F v)\/∃e o c,d e o c/\H e o c/\be e o c/\J e o c/\K e o c/\f e o c:=
 h.DO (λh=>h.DO λv h=>⟨k1 v h.1,h.2.1,h.2.2.1,h.2.2.2.1,k2 v h.2.2.2.2.1,h.2.2.2.2.2⟩) λh=>h.DO λe h=>h.DO λo h=>h.DO λc h=>⟨m1 e o c h.1,h.2.1,h.2.2.1,h.2.2.2.1,h.2.2.2.2.1,g e o c h.2.2.2.2.2⟩
theorem FR{α β γ δ d:Type}{A:α->β->Prop}{B C D L F G:α->β->γ->δ->d->Prop}{a:α}{b:β}(c:γ){Q:δ}{e:d}(h1:A a b)(h2:B a b c Q e)(h3:C a b c Q e)(h4:D a b c Q e)(h5:L a b c Q e)(h6:F a b c Q e)(h7:G a b c Q e):∃a b,A a b/\∃c Q e,B a b c Q e/\C a b c Q e/\D a b c Q e/\L a b c Q e/\F a b c Q e/\G a b c Q e:=⟨a,b,h1,c,Q,e,h2,h3,h4,h5,h6,h7⟩
theorem Cw{α β:Type}{P:Prop}{x:bS (α×β)}(h:x.z_=true)(k:∀a b,x=ap (a,b)->P):P:=(bS.v8.mp h).ef λy e=>k y.1 y.2 e
theorem a8.W.holds_open{r:OpenRow}{q:mS}{zm:am h9}{Xt:a6->ct}{XP:(h9->bS a9)->d4->Prop}{α:Type}{Yf:a6->α}{Ya:tq->α}{YP:tq->d4->Prop}{Q:DefRec}{B:am (h9×fY)}{N:a5}
  (aa:LeftO r.bZ q zm Xt Yf Ya N) (hY:∀w s,Yf s=Ya w->YP w s.bh) (PZ:∀w h h',YP w h->(∀b o,h.ck b=ap o->h'.ck b=ap o)->YP w h')
  (hX:∀s,Xt s=true->XP (s.bh.nsMap hU) s.bh) (Pf:∀m h h',XP m h->(∀b o,h.ck b=ap o->h'.ck b=ap o)->XP m h')
  (C:defOf q r.wQ=ap (Q,B)) (p:r.bZ.theDef r.wQ=ap (Q.params,Q.lV,Q.jp)) (hk:kwWritten? Q.params.kwonlyargs Q.params.kw_defaults=ap B) (Pg:∀s,Xt s=true->RecFacts r.records s.bh) (T:(!r.writes ||r.records.sw)=true)
  (k1:r.wellSaid=true) (ok:(chainsOk q&&opensWell r.bZ&&(frees r.toRowW&&r.within.sw))=true) (hb:r.bZ.bare) (D:r.toRowW.promised) (ng:OwnWalk q zm XP YP r.toRowW Q B):r.Holds:=by
 have d:=ai ok;haveI U:=(frees_parts (ao d)).1;haveI V:=(frees_parts (ao d)).2.1;haveI ha:=(frees_parts (ao d)).2.2.1;haveI W:=(frees_parts (ao d)).2.2.2.1;haveI X:=(frees_parts (ao d)).2.2.2.2;have E:=aa.behind (XP:=λm h=>XP m h/\RecFacts r.records h) (λs hs=>⟨hX s hs,Pg s hs⟩) (ao (ao ok));refine⟨k1,D,⟨hb,ai (ao ok),b5 (am.hC _) X⟩,D.witness,λw=>⟨(E w).1,λs' Y=>wU ((E w).2 s' Y) λZ s hf Nn F hz DP hg c y=>?_⟩⟩;have H:Ground q zm [] XP w s (s.bh.nsMap hU) (s.bh.nsMap DQ) s.bh:=⟨c.T,c.B,c.D,c.TE,c.TD,c.W,c.X.1,c.mm,c.has,c.apart,c.once,c.K⟩;have I:=rv.eq_empty_of_size_eq_zero (wn.mp DP);have G:=c.X.2.ground H;refine⟨Z,hf,Nn,s,F,λn hn=>?_,c.X.2.1,c.X.2.2.1,λci oW Ci ord J=>?_⟩
 ·haveI e:n=r.wQ:=by
   clear F Nn hf G I H y c hg DP hz Z Y s' w D E X W ha V U d ng hb ok k1 T;cases p:r.pinned with
   |true=>replace hn:=p▸hn;exact am.e0.mp hn
   |false=>replace hn:=p▸hn;exact(am.not_mem_nil hn).ef
  exact ab e (pinned_of_view hg H C p hk)
 refine aD λZP zk=>Cw (layAllW_isSome (P:=w.params) (ord:=ord) G.has ci r.args s (pre_splitW oW).1) λvs t j=>?_;haveI l:=layAllW_keeps _ _ _ j;have u:=layAllW_rest _ _ _ j;refine lI (reads_layAllW J _ _ _ j Ci t.bh (λ_ _ e=>e)) λas Ih K L=>?_;have ad:Laid r.records w s t ci vs as:=⟨⟨ord,J,j⟩,Ih,K,L,l,u.1.trans I,u.2.2.1⟩;haveI A:=G.Lx Pf l;refine(IM (A.fn C)).ef λa h1=>?_;refine xM (yC (R:=MG r s t ci vs) (a6.asleep_of_life u.2.2.2 hz) (yB A.T.g h1 (ng w s t _ _ A (hY w s y) l a (ab (defOf_name C) h1) ad.gens ci vs as oW Ci ad.reads λb hb=>⟨L b hb,(K.2.2 b hb).1⟩) λv s2 g=>by
  haveI z:=g.laid U (am.sn.mp (ai d)) (ident_freeW V ha W) ad;exact⟨⟨z.1,z.2.1,λq=>⟨namesKept_of F hg _ l g.2.1.old,noTable T q⟩⟩,leftWithCleanup_false_of_bare z.2.2⟩)) λk e s2 s3 Ig zh Kk z=>?_
 apply zk;clear zk;haveI M:=a6.forget_eq Kk;haveI O:=M.1;exact FR k j zh (BK (z.1.congr O) (λ_ z=>b5 outcomeOf z) (λ_ f b o y _=>f b o y) (λ_ _ _ z=>b5 outcomeOf z) λ_ _ _ f b o y _=>f b o y) (λ_ i x S=>by replace S:=I▸S;clear zh j O M z Kk Ig s3 e h1 A l L K Ih J ad as;cases S) (O▸z.2.2) (by exact((runN_life _ _ _ Ig).trans u.2.2.2)▸rfl) (a6.rest_eq (M.2.2.2.1.trans z.2.1))
def pick:am Do->a5->am a5->Frag
 | [],_,_=> []
 |o::l,i,as=>match as with | []=> [] |a::r=>Fe (a5.beq i a) (Fe (a5.beq o.hy.b4 10) (pick l (i+1) r) ((a,o)::pick l (i+1) r)) (pick l (i+1) (a::r))
def zp(h:d4):ct:=Ae (pick h.kq.q6 0 kA) tc CM me&&h.nsMap hU "law" ==ap (.bs (nY 134))
def hook:Hook:=⟨ct,λs=>zp s.bh,λZ=>true,λZ h=>∃h0,zp h0=true/\∀b o,h0.ck b=ap o->h.ck b=ap o,λZ s e=>⟨s.bh,e,λZ Z q=>q⟩,λZ h h' x k=>x.DO λh0 y=>⟨y.1,λb o q=>k b o (y.2 b o q)⟩⟩
def less(h:d4)(a:e9):d4:=⟨h.kq.mapIdx λi o=>if i=a then{o with hy:=.freed}else o,h.life⟩
section
variable{h:d4}{a b c i:a5}{o:Do}{l:am Do}{as:am a5}
theorem kJ:∀{l:am Do} {i:a5} {as:am a5},(a,o)∈pick l i as->a∈as/\i<=a/\l[a - i]?=ap o/\a5.beq o.hy.b4 10=false
 |x::l,i,y::r,m=>by
  have Kj:∀{as:am a5},(a,o)∈pick l (i+1) as->a∈as/\i<=a/\(x::l)[a - i]?=ap o/\a5.beq o.hy.b4 10=false:=λm=>by
   haveI w:=(kJ m).1;haveI p:=(kJ m).2.1;exact mN w (a5.IN p) (ab (show a - i=(a - (i+1))+1 from(a5.sub_one_add_one (a5.FA (a5.sub_pos_of_lt p))).symm) ((kJ m).2.2.1)) ((kJ m).2.2.2)
  change(a,o)∈Fe (a5.beq i y) _ _ at m
  cases e:a5.beq i y with
  |false=>rw[e]at m;exact Kj m
  |true=>
   rw[e]at m
   change(a,o)∈Fe (a5.beq x.hy.b4 10) _ _ at m
   cases f:a5.beq x.hy.b4 10 with
   |true=>
    replace m:=f▸m;haveI w:=(Kj m).1;exact⟨.sy _ w,((Kj m).2)⟩
   |false=>
    rw[f]at m;rcases am.hD.mp m with m |m
    ·clear Kj;cases m;clear m;obtain rfl:=a5.eq_of_beq_eq_true e;exact mN (.sk _) (a5.i3 _) (by rw[a5.sub_self];rfl) f
    ·haveI w:=(Kj m).1;exact⟨.sy _ w,((Kj m).2)⟩
theorem FE{o:Do}(h1:h.kq[a]?=ap o)(h2:a5.beq o.hy.b4 10=false):h.ck a=ap o:=by unfold d4.ck;refine ab h1 ?_;obtain⟨c,Q,t,s⟩:=o;clear h1;cases t<;>first |rfl |exact mj h2
theorem yx(m:(a,o)∈pick h.kq.q6 0 as):a∈as/\h.ck a=ap o:=by refine xN (kJ m) λw Z q z=>?_;exact⟨w,FE ((rv.getElem?_toList ..).symm.trans q) z⟩
theorem lH:(less h a).ck c=if c=a then bk else h.ck c:=by
 delta less d4.ck;refine ab (rv.getElem?_mapIdx) ?_;cases h.kq[c]? with
 |bk=>exact(ite_self _).symm
 |ap o=>
  rw[bS.map_some];by_cases q:c=a
  ·exact ab ((et q)) (ab (et q) rfl)
  ·exact ab ((dx q)) (ab (dx q) rfl)
end
theorem ue{R:WRecords}:∀{xs:am WData},WShape.hasItems R xs .bn=true->∃ns:am b0,xs=ns.hC .bn:=by
 intro c
 induction c with
 |iv=>
  exact λZ=>⟨[],rfl⟩
 |d2 x xs b=>
  intro h;refine aN (hasW_int (hasItemsW_at h x (.sk _))) λn a=>?_;subst a;refine aN (b (ai h)) λns a=>?_;clear h b R;subst a;exact⟨n::ns,rfl⟩
theorem tQ{R:WRecords}{cl:h9->bS e9}{h:d4}:∀{ns:am b0} {vs:am a9} {as:am e9},ReadsAllW R cl h vs (ns.hC .bn) as->IntsAre vs ns:=by
 intro b
 induction b with
 |iv=>
  intro vs as r;obtain⟨rfl,_⟩:=readsAllW_nil_inv r;exact .iv
 |d2 n ns c=>
  intro vs as r;refine xM (readsAllW_cons_inv r) λv aL a1 g d Z a e=>?_;subst d;clear r;refine ar (readsW_int_inv a) λt f Z=>?_;clear a;subst f;exact .d2 _ _ (c e)
theorem ze{P:Ph}{d:H}{h:d4}{l:am b0}{us:am a9}(x:IntsAre us l):aA P d h (l.hC .bn) us:=by
 induction x with
 |iv=>exact rfl
 |d2 n t _ a=>exact eN _ _ rfl ⟨t,rfl⟩ a
def gD(ob:Do)(cC:am b0):H:=⟨λt k=>if t=99/\k=0 then ap (.fix ob (cC.hC .bn))else bk,λt=>if t=99 then 1 else 0⟩
theorem Fj{ob:Do}{cC:am b0}:(gD ob cC).ed 99 0=ap (.fix ob (cC.hC .bn)):=rfl
def JS(l:e9):Ph:=⟨λZ Z=>l,λx=>if x=l then .d9 99 0 else .j2⟩
section
variable{bZ:mS}{w:tq}{K:Frag}{s:a6}{l:e9}{ob:Do}{cC:am b0}{tA:am a9}{n:a5}
theorem mU{b:e9}{x:GX}(h:(JS l).k0 b=x):(b=l/\x=.d9 99 0)\/(b≠l/\x=.j2):=by
 change(if b=l then GX.d9 99 0 else GX.j2)=x at h
 by_cases p:b=l
 ·rw[et p]at h;exact .u0 ⟨p,h.symm⟩
 ·rw[dx p]at h;exact .wl ⟨p,h.symm⟩
theorem Om(c:s.bh.ck l=ap ob)(d:ob.mm=.fX "list" /\∃n,ob.hy=.seq tA.eb n)(f:IntsAre tA cC):St (Lk bZ w (less s.bh l) K s) (JS l) (gD ob cC) s:=by
 have g:(JS l).k0 l=.d9 99 0:=et rfl;refine⟨⟨λb t k q=>?_,λb M q=>?_,λZ b M q=>?_,λb o q=>?_,λt k o q=>?_,λt k q=>?_,⟨λb q=>?_,λa q e=>dE e⟩⟩,rfl,rfl,rfl,trivial⟩
 ·rcases mU q with⟨rfl,_⟩ |⟨_,z⟩
  ·exact⟨ob,c⟩
  ·exact bf GX.b4 z rfl
 ·rcases mU q with⟨_,z⟩ |⟨_,z⟩<;>exact bf GX.b4 z rfl
 ·rcases mU q with⟨_,z⟩ |⟨_,z⟩<;>exact bf GX.b4 z rfl
 ·change(less s.bh l).ck b=ap o at q
  replace q:=lH▸q;by_cases z:b=l
  ·replace q:=(et z)▸q;exact dE q
  ·replace q:=(dx z)▸q;exact⟨q,dx z⟩
 ·change(if t=99/\k=0 then ap (O.fix ob (cC.hC .bn))else bk)=ap o at q
  by_cases z:t=99/\k=0
  ·replace q:=(et z)▸q;obtain⟨rfl,rfl⟩:=z;cases q;exact⟨⟨c,tA,d,ze f⟩,g⟩
  ·replace q:=(dx z)▸q;exact dE q
 ·refine dx λz=>?_;obtain⟨rfl,rfl⟩:=z;exact a5.not_succ_le_zero 0 q
 ·rcases mU q with⟨_,z⟩ |⟨_,z⟩<;>exact bf GX.b4 z rfl
end
abbrev jX{q:mS}{zm:am h9}{XP:(h9->bS a9)->d4->Prop}{w:tq}{c d:a6}{e f:h9->bS a9}{cC:am b0}{l a:a5}{tA:rv a9}{ob:Do}:Prop:=
 ∀(g:Ground q zm (OpenRow.toRowW a8.Lu.Fp.row).records XP w c e f d.bh) (Y:hook.says w c.bh) (j1:∀b o,c.bh.ck b=ap o->d.bh.ck b=ap o) (ha:e "law" =ap (.bs a)) (h:d.gens= #[]) (i:cC.ah<=1000) (j:c.bh.kq.hN<=l) (k:d.bh.ck l=ap ob) (m:ob.mm=.fX "list" /\∃n,ob.hy=.seq tA n) (p:IntsAre tA.q6 cC),
  ch (dd a8.Lu.Fp.row.bZ w) callerA (a8.ng (.bs a) [.bs l]) (λv s'=>GoodWG (OpenRow.toRowW a8.Lu.Fp.row).claim (classAt c.bh) (ExcName.means c.bh) [.dG (cC.hC .bn)] d (.ok (.ret v)) s') (λZ Z=>uk) d
theorem yD:∀{q zm XP w f d i j cC l a tA ob},@jX q zm XP w f d i j cC l a tA ob:=by
 refine λ{q zm XP w f d i j cC l a tA ob}=>cK (q:=kC @jX) ((?_:∀q zm XP w f d i j cC l a tA ob,@jX q zm XP w f d i j cC l a tA ob) _ _ _ _ _ _ _ _ _ _ _ _ _) (q,zm,XP,w,f,d,i,j,cC,l,a,tA,ob);intro q zm XP w f d i j cC l a tA ob k Y j1 ha H I J p x L;refine ar Y λh0 A B=>?_;have dW:Frag.In (pick h0.kq.q6 0 kA) (less d.bh l):=λb o e=>by
  obtain⟨m,g⟩:=yx (bU e);haveI s:=B _ _ g;have nb:b≠l:=λz=>by rw[z]at s;exact a5.q5 _ (a5.ew (d4.JL s) J)
  exact lH.trans ((dx nb).trans (j1 _ _ s))
 have py:∀{b:a5} {o:Do},b≠l->d.bh.ck b=ap o->(less d.bh l).ck b=ap o:=λh2 e=>lH.trans ((dx h2).trans e);have M:=ai A;have ea:a=nY 134:=by
  replace ha:=k.T.g.eq_nsMap▸ha;have y:h0.nsMap hU "law" =ap (.bs (nY 134)):=cx M;cases u:h0.ck hU with
  |bk=>delta d4.nsMap at y;replace y:=u▸y;exact dE y
  |ap R=>
   haveI N:=j1 _ _ (B _ _ u);haveI O:d.bh.nsMap hU "law" =h0.nsMap hU "law" :=by delta d4.nsMap;exact ab u (ab N rfl)
   exact a9.bs.zv (bS.ap.zv (ha.symm.trans (O.trans y)))
 have ns:∀{b:a5} {m:h9->bS a9},b≠l->d.bh.Ns b m->(less d.bh l).Ns b m:=λh1 ⟨o,es,C,p,r⟩=>(KC o es C (py h1 p) r);have low:∀{b:a5} {m:h9->bS a9},d.bh.Ns b m->b≠l:=λ⟨o,es,C,hb,r,_⟩ z=>by
  subst z;obtain⟨_,n,e⟩:=x;obtain rfl:=bS.ap.zv (p.symm.trans hb);exact(bf Data.b4 (e.symm.trans r) rfl)
 have E:=k.T.g;have top:TopRead q (looseW q zm) i j (less d.bh l):=⟨ns (low E) E,ns (low k.T.b) k.T.b,k.T.nolimit.DO λS z=>⟨ns (low z.1) z.1,z.2⟩,k.T.r6,k.T.j2⟩;haveI st:=Om (bZ:=a8.Lu.Fp.row.bZ) (w:=w) (K:=pick h0.kq.q6 0 kA) (tA:=tA.q6) p x L;refine ar (fin (λZ Z Z a b c=>(K.za a b c).DO λZ z=>⟨z.1.go,z.2⟩) ⟨Lk a8.Lu.Fp.row.bZ w (less d.bh l) (pick h0.kq.q6 0 kA) d,rfl,rfl,rfl,rfl,λZ=>ao A,λZ=>dW,λZ=>Ez _ _ _ _ top⟩ (D:=Lk _ w (less d.bh l) (pick h0.kq.q6 0 kA) d) rfl ob cC (gD ob cC) Fj I λt h=>dx h) λm F P=>?_;have z:=(F callerA (JS l) d [.bs l] st ⟨⟨[],rfl,λZ z=>(am.not_mem_nil z).ef⟩,by decide,by decide,λZ=>rfl,rfl⟩ (eN (.bs l) ([]) rfl ⟨rfl,rfl⟩ rfl)).sim;replace z:=ea.symm▸z;haveI Q:=z (λv s'=>GoodWG (OpenRow.toRowW a8.Lu.Fp.row).claim (classAt f.bh) (ExcName.means f.bh) [.dG (cC.hC .bn)] d (.ok (.ret v)) s') (λZ Z=>uk) λb s' P' S' G r'=>by
  clear ha ea F st;obtain rfl:b=.gg true:=r';refine mN (.u0 ⟨.gg true,.gg true,[],rfl,λZ=>rfl,.gg true,postW_of rfl (by wtm_val) (X:=true) rfl,λZ=>⟨.iv,λZ z=>(am.not_mem_nil z).ef⟩⟩) ⟨λb o e=>?_,λb o e=>G.kG b o e⟩ S'.r.2.2.1 (AllBare.of_eq (S'.r.1.trans H));clear z;by_cases h1:b=l
  ·subst h1;haveI y:s'.bh.ck _=ap ob:=(b5 (λa=>s'.bh.ck a) (G.qE 99 0 rfl).2).symm.trans (S'.h.ed 99 0 _ P).1.1;exact .u0 (y.trans (p.symm.trans e))
  ·exact .u0 (S'.h.tg b o (py h1 e)).1
 exact Q
theorem own_walk{q:mS}{zm:am h9}{XP:(h9->bS a9)->d4->Prop}{Q:DefRec}{c:am (h9×fY)}(hn:Q.wQ= "law"):OwnWalk q zm XP hook.says (OpenRow.toRowW a8.Lu.Fp.row) Q c:=by
 intro w B C D E j Y j1 a ha k ci db as d m e n;haveI f:=pre_splitW d;refine dQ (hasAllW_cons f.1) λx s8 o g h=>?_;clear m d c;subst o;obtain rfl:=hasAllW_nil h;refine ar (hasW_list g) λxs b hi=>?_;clear h g;subst b;refine aN (ue hi) λcC b=>?_;clear hi;subst b;refine xM (readsAllW_cons_inv e) λv vs a1 F p r s i=>?_;clear e;subst p;subst r;obtain⟨rfl,rfl⟩:=readsAllW_nil_inv i;clear i;obtain⟨l,tA,G,rfl,⟨ob,t,u⟩,z,rfl⟩:=readsW_list_inv s;haveI A:cC.ah<=1000:=by
  haveI y:=condW_of (X:= !(decide ((63:b0)<((cC.hC WData.bn).ah:b0)))) (holds_andW f.2).1 (by wtm_val);rw[am.fz]at y;exact a5.bb (b0.sp.mp (b0.to.mp (of_decide_eq_false (mR y)))) (by decide)
 exact yD j Y j1 (hn▸ha) k A (n l (.sk _)).2 t u (tQ z)
end Internal
end

end
set_option Elab.async true
namespace Internal
set_option maxRecDepth 100000 in
set_option maxHeartbeats 0 in
theorem all : PySem.Challenge.rw_nz0233_01.Holds := by
  w_on; o_law; o_head hook; (case hw => w_witness2); exact own_walk rfl
end Internal
theorem PySem.Challenge.cw_nz0233_01_holds : PySem.Challenge.rw_nz0233_01.Holds :=
  Internal.all
