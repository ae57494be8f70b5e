import PyProof.Rows.All
import Wide.All
import OpenK.AllK
import Lean
import PySem.Challenge.RW_nt0468_01
/- How to read this text: it was written as 110 texts; a program joined them and made names short. Local rules for some forms stand in it:
a declaration stays what it says (the rule leaves out source positions and adds noncomputable); ∅ is (r_loc rfl), ⋯ is (by decide), () is (by kernel_rfl), in the last part the position psB;
rw, cases, obtain make smaller terms; ext names data and puts Hilbert's choice of a worst case in their place; lia tries lemmas first. -/
set_option Elab.async false
set_option linter.all false
set_option genSizeOf false
set_option tactic.hygienic false
set_option genCtorIdx false
set_option compiler.extract_closed false
set_option maxRecDepth 100000
set_option maxHeartbeats 0
open Option renaming some -> J, none -> U
open Bool renaming true -> b9, false -> cj
open Decidable renaming decide -> cu
open List renaming append_assoc -> aa, getElem?_append_left -> ae, length_append -> a6, getElem?_eq_getElem -> a7, getD_eq_getElem?_getD -> ba, length_map -> bj, range -> cn, all_eq_true -> cN, mem_range -> cO, append_nil -> cP, length_set -> cR, getElem?_append_right -> cT, mem_append -> cV, getElem?_map -> cY, replicate -> cZ, getElem_mem -> du, length_range -> dv, map_cons -> dA, mem_of_getElem? -> dD, length_take -> dE, size_toArray -> dM, take_succ_eq_append_getElem -> dN, mem_flatMap -> dP, map_append -> dR, mem_cons -> dS, take_length -> dW, mem_singleton -> dX, lookup_cons -> d9, mem_map -> ef, length_replicate -> eg, mem_filter -> eo, forall_mem_cons -> ey, any_eq_true -> ez, set_append_right -> eA, length_cons -> eB, cons_append -> eD, getElem?_eq_none -> eI, getElem?_set_ne -> eN, take_zero -> eQ, getElem?_take_of_lt -> eS, length_filter_le -> eV, length_nil -> fc, append -> fD, nil_append -> fF, getLast?_eq_getElem? -> fG, sum_cons -> fM, replicate_succ -> fQ, getElem?_range -> fS, getElem?_set_self -> fU, not_mem_nil -> fW, getElem?_eq_some_iff -> gb, range_succ -> gk, flatMap_nil -> gI, set_set -> gU, take_append_drop -> gV, getElem?_toArray -> gW, mem_of_ne_of_mem -> gY, mem_of_mem_take -> hE, getLast?_append -> hI, length_dropLast -> hJ, map_map -> h9, flatMap_append -> ij, getElem_of_mem -> ik, set_cons_zero -> iA, getElem?_set -> iH, flatten_cons -> iI, map_nil -> iK, flatMap_cons -> iL, dropLast_eq_take -> iP, mem_reverse -> iS, any_cons -> iT, getElem?_of_mem -> iX, set_append_left -> iY, dropLast_concat -> iZ, foldl_cons -> ja, append_toArray -> je, mem_or_eq_of_mem_set -> jx, range' -> jC, idxOf_lt_length_iff -> jE, isEmpty_iff -> jM, length_drop -> jN, filter_cons -> jP, getElem?_cons_succ -> jR, getElem?_replicate -> jS, ext_getElem -> jT, range_succ_eq_map -> j0, drop_eq_nil_of_le -> j3, take_of_length_le -> j4, any_nil -> j7, length_singleton -> kC, mem_iff_getElem? -> kD, map -> kE, mem_of_mem_drop -> kP, map_congr_left -> kZ, length_reverse -> k9, getElem_idxOf -> lB, zip_cons_cons -> lD, filter_append -> lE, getElem?_drop -> lH, pairwise_cons -> lI, filter_congr -> lV, mem_range'_1 -> lW, sum_nil -> lX, map_set -> lY, mem_toArray -> mi, find?_cons -> mH, forIn_cons -> mJ, sum_append -> mS, any_append -> mT, idxOf_cons -> mU, drop_zero -> nc
open Nat renaming lt_of_le_of_lt -> ar, lt_of_lt_of_le -> cQ, le_trans -> cS, testBit_and -> cU, lt_trans -> cX, le_refl -> da, le_add_right -> di, le_of_lt_succ -> dk, add_le_add_left -> dn, testBit_two_pow -> dq, zero_testBit -> dy, testBit_or -> dz, shiftRight_eq_div_pow -> dC, and_le_right -> dF, and_le_left -> dG, zero_le -> dH, add_assoc -> dI, le_of_lt -> dJ, mod_two_eq_zero_or_one -> dK, lt_succ_self -> dO, mul_le_mul_right -> dQ, add_comm -> dY, eq_of_testBit_eq -> d0, zero_add -> d6, le_of_not_lt -> d7, add_sub_cancel_left -> d8, xor_assoc -> eh, pos_of_ne_zero -> ei, sub_self -> eE, pow_le_pow_right -> eG, testBit_shiftLeft -> eJ, add_le_add_right -> eM, sub_le -> eO, sub_add_cancel -> eP, lt_irrefl -> eZ, ne_of_gt -> fh, testBit_xor -> fk, add_right_comm -> fo, add_sub_cancel -> fp, mul_div_cancel_left -> fv, lt_add_of_pos_right -> fx, testBit_shiftRight -> fA, not_lt_zero -> fE, succ_pos -> fJ, pow_lt_pow_right -> fO, exists_eq_add_of_le -> fP, mul_comm -> fT, not_lt -> fX, div_add_mod -> gf, two_pow_pos -> gj, lt_succ_of_le -> gn, sub_pos_of_lt -> gr, two_pos -> gu, add_lt_add_left -> gD, and_two_pow_sub_one_eq_mod -> gH, exists_eq_succ_of_ne_zero -> gJ, sub_lt -> gL, pow_succ -> gT, add_sub_of_le -> gZ, mul_mod_right -> g6, lt_succ_of_lt -> g7, add_lt_add_right -> g9, div_lt_of_lt_mul -> hB, div_eq_of_lt -> hO, le_of_eq -> hU, mod_eq_of_lt -> hZ, shiftLeft_eq -> h8, reduceEqDiff -> ib, lt_pow_two_of_testBit -> ie, mul_le_mul_left -> ig, le_antisymm -> ix, lt_of_le_of_ne -> iz, one_pos -> iB, exists_eq_add_of_lt -> iE, add_le_add -> iF, div_div_eq_div_mul -> iG, xor_zero -> iM, sub_eq_zero_of_le -> iO, succ_ne_zero -> iQ, and_assoc -> iU, le_add_left -> i0, min_le_left -> i5, one_ne_zero -> i6, min_eq_left -> i7, add_sub_cancel' -> jg, succ_mul -> jh, xor_self -> ji, xor_comm -> jl, testBit_two_pow_sub_one -> jm, add_mul_mod_self_right -> jn, lt_of_add_lt_add_left -> jw, zero_lt_of_lt -> jy, add_mul -> jz, lt_succ_iff_lt_or_eq -> jI, succ_pred_eq_of_pos -> jJ, min_le_right -> jK, lt_of_not_le -> jL, succ_le_succ -> jQ, dvd_of_mod_eq_zero -> jU, add_zero -> jW, and_zero -> j5, and_self -> j6, zero_xor -> j8, testBit_lt_two_pow -> j9, add_mul_div_right -> ki, lt_sub_iff_add_lt -> kj, le_div_iff_mul_le -> km, sub_le_of_le_add -> kF, sub_le_sub_right -> kH, mul_one -> kI, one_mul -> kJ, zero_or -> kN, lt_mul_div_succ -> kR, mul_div_cancel' -> kT, sub_lt_sub_left -> kW, div_eq_zero_iff -> kY, mul_assoc -> lh, or_eq_zero_iff -> lG, succ_sub_succ -> lJ, add_mod_right -> lM, le_total -> lN, add_left_comm -> lP, succ -> lU, sub_zero -> ma, min_eq_right -> mn, succ_ne_self -> mu, add_mod -> mx, le_succ -> my, mul_add_mod -> mF, div_le_self -> mG, mod_lt -> mV, log2 -> mZ
open Bool renaming and_eq_true -> ax, or_eq_true -> cW, and_eq_true_iff -> dc, false_ne_true -> dd, eq_iff_iff -> de, not_eq_true' -> dg, or_eq_true_iff -> ew, eq_false_iff -> eL, true_and -> eU, false_or -> fy, or_eq_false_iff -> fN, and_false -> fZ, and_eq_false_iff -> f9, not_eq_true -> iR, or_false -> iV, xor_false -> jv, not_true -> jG, and_true -> jH, false_and -> kO, false_eq_true -> lC, true_or -> lZ
open PySem.Str renaming ofString -> bb
open PySem renaming Expr -> bo, World -> dw, Env -> eC, Value -> nr, wpAny_bind -> nu, Shared -> nB, wpAny -> nE, Params -> nG, NameKind -> nH, wpAny_pure -> nJ, OsState -> nK, wpAny_mono -> nL, DictEntry -> nM, Program -> nN, World -> nO, Around -> nQ, wpAny_holding -> nR, mem_of_lookup -> nS, wpAny_Call_Name_kw -> nT, wpAny_newObj_type -> nU, Scope -> nV, lookup_relabel_local -> nW, IsRangeIter -> nX, Comprehension -> nY, wpAny_standAt -> nZ, wpAny_call_entry -> n3, call_meets -> n8, wpAny_execs_nil -> n9, Operator -> oa, Arguments -> od, CmpOp -> oe
open Option.some renaming inj -> cL, injEq -> jA
open Classical renaming byContradiction -> cM, propDecidable -> eW, epsilon_spec -> jY, epsilon -> lQ, not_not -> mh
open PySem.Challenge renaming rw_nt0468_01 -> dh
open Option renaming map_eq_some_iff -> dj, isNone_iff_eq_none -> eu, isSome_iff_exists -> eH, bind_some -> eT, bind_eq_some_iff -> iC, some_ne_none -> jf, map_some -> mM
open PySem.Heap renaming get?_push_of_some -> dB, get?_push_size -> gF, ExtBut -> gK, get?_none_of_le -> iW, SameBut -> lR, IsTuple -> lS, size_push -> mY
open Ne renaming symm -> dT
open Int renaming natCast_nonneg -> dU, ofNat_lt -> eK, toNat_natCast -> fe, fmod -> fg, ofNat -> fq, fdiv -> fH, ofNat_sub -> fK, ofNat_le -> gx, le_trans -> gz, toNat_of_nonneg -> gC, lt_of_le_of_lt -> gM, add_sub_cancel -> gO, lt_of_lt_of_le -> gP, fmod_eq_emod_of_nonneg -> hH, le_of_lt -> hV, add_assoc -> ip, eq_ofNat_of_zero_le -> iD, fmod_nonneg_of_pos -> iN, sub_add_cancel -> jo, fdiv_eq_ediv_of_nonneg -> ju, lt_trans -> jV, toNat_lt -> jX, ne_of_gt -> jZ, ediv_lt_of_lt_mul -> ku, sub_nonpos_of_le -> kG, toNat_of_nonpos -> kU, add_right_comm -> lr, fmod_lt_of_pos -> lF, emod_eq_of_lt -> lK, add_sub_assoc -> lO, natCast_zero -> mr, negSucc -> mz, emod_nonneg -> mA, natCast_mul -> mN, natCast_pow -> mQ
open PySem.Builtin renaming bitNot -> dZ, bitAnd -> fY, divisionGoesByPylong -> i9, bitOr -> lq, bitXor -> mW
open PySem.W.Fast renaming tw14364793385576792824 -> fV, te14364793385576792824 -> ir, tw9446332074065402090 -> iy
open Nat.succ renaming inj -> gy
open PySem.Calls renaming evalArgs_plain -> gB, callWith_builtin -> gQ, spliced_cons -> gR, spliced_nil -> g8, Name_function_global -> jr
open PySem.Heap.SameBut renaming update -> gE
open PySem.PyData renaming keyHash -> gG
open Int.ofNat renaming inj -> iq
open PySem.Builtin.List renaming listTooLong -> iu
open PySem.NameKind renaming free -> iw, globalImplicit -> jO, cell -> ni
open Prod renaming ext -> iJ, fst -> kM
open ForInStep renaming yield -> jb
open PySem.W.WShape renaming hasItems -> jc
open PySem.Builtin.Int renaming intBits -> jd
open PyProof.Rows renaming getItem_tuple -> jq
open PySem.F renaming slot_tuple_iterator_iter -> js, slot_range_iterator_iter -> jt, slot_list_append -> lA, slot_list_index -> lT
open Prod.mk renaming inj -> jB
open Array renaming eraseIdxIfInBounds -> jD, any_toList -> mj
open PySem.Value.ref renaming inj -> jF
open PySem.Stmt.FunctionDef renaming elim -> kA
open PySem.Const.str renaming elim -> kL
open List.Pairwise renaming filter -> kQ
open PySem.Builtin.Range renaming small -> kX
open PySem.IsL renaming isList -> lu, update -> ly
open PySem.Value renaming bool -> lx
open Decidable renaming not_not -> me
open PySem.Obj renaming mapSeq -> mX
open PySem.Expr.Attribute renaming elim -> nf
open PySem.Expr.Subscript renaming elim -> nh
open PySem.W.WTm renaming value -> nj
open PySem.W renaming boot_drawn -> nD
open PySem PySem.W PyProof.Rows
namespace Mine.Lake
section
open Lean (Syntax MacroM)
def tU{α:Type}:MacroM α:=Lean.Macro.throwUnsupported
def fd(p:List Syntax)(l:List String):Syntax:=(l.foldl (λst w=>
  match w.toList with
  | []=>st
  | c::r=>
   let s:=String.ofList r
   if c='\'' then .atom .none s::st
    else if c='!' then Lean.mkIdent s.toName::st
    else if c='$' then p[s.toNat?.getD 0]! ::st
    else .node .none (if s="" then `null else if s.startsWith "." then("Lean.Parser.Tactic"++s).toName else if s.startsWith "_" then("Lean.Parser.Term."++(s.drop 1).toString).toName else s.toName) (st.take (c.toNat - 48)).reverse.toArray::st.drop (c.toNat - 48)) []).head!
def rp(s:String)(p:List Syntax):Syntax:=fd p (s.splitOn " ")
def YT(l:List Syntax):Syntax:=.node .none `null l.toArray
def sq(l:List Syntax):Syntax:=rp "$0 1.tacticSeq1Indented 1.tacticSeq" [YT (l.intersperse (.atom .none ";"))]
def pa(l:List Syntax):Syntax:=rp "'( $0 ') 3.paren" [sq l]
def fi(l:List Syntax):Syntax:=rp "'first $0 2.first" [YT (l.map λt=>rp "'| $0 2group" [sq [t]])]
def ap(f:Syntax)(l:List Syntax):Syntax:=if l.isEmpty then f else rp "$0 $1 2_app" [f,YT l]
def ho(n:Nat):List Syntax:=cZ n (rp "'_ 1_hole" [])
def re(k:String)(l:List Syntax):Syntax:=rp "'refine $0 2.refine" [ap (rp ("!Mine.Lake."++k) []) (l++[rp "'? '_ 2_syntheticHole" []])]
def tb(t:Syntax):Syntax:=rp "'by $0 2_byTactic" [sq [t]]
def al(w:String):Syntax:=
 match w.splitOn ":" with
 | [f,a]=>rp "'exact $0 2.exact" [ap (rp ("!"++f) []) (kE (λc=>if c='a' then tb (rp "'assumption 1.assumption" []) else if c='d' then tb (rp "'decide 0 1.optConfig 2.decide" []) else rp "'_ 1_hole" []) a.toList)]
 | _=>.missing
def mO(s:Syntax):MacroM Syntax:=if s[1][0].getNumArgs != 0 then tU else pure (fi [
 rp "'with_reducible $0 2.withReducible" [sq [fi (rp "'assumption 1.assumption" []::kE al ("Nat.lt_of_lt_of_le:aa Nat.lt_of_lt_of_le:ad Nat.lt_of_le_of_lt:ad Mine.Lake.f2: Mine.Lake.lt_eq:aa Mine.Lake.leL:aad Mine.Lake.anL:ad Nat.le_add_right:__ Nat.le_add_left:__ Nat.le_of_not_lt:a Mine.Lake.zC:aa Mine.Lake.zA:a Mine.Lake.LLj:a Mine.Lake.zB:aaa Mine.Lake.zI:aa Mine.Lake.zD:aaa Mine.Lake.LLf:a Mine.Lake.zQ:aaaa Mine.Lake.zE: Mine.Lake.zDa:aaaa Mine.Lake.zAl:aa Mine.Lake.zAs: Mine.Lake.zF:aa Mine.Lake.zG:aa Mine.Lake.zH:aa Mine.Lake.LLh:ad Mine.Lake.LLm:aa Mine.Lake.zJ: Mine.Lake.zL:aa Mine.Lake.zR:a Mine.Lake.zBn:a Mine.Lake.zT:aa Mine.Lake.zAg:a Mine.Lake.zPu:a Mine.Lake.zAj:aa Mine.Lake.LLn:a Mine.Lake.LLd:a Mine.Lake.LLu:a Mine.Lake.zEe:a Mine.Lake.zM:aa Mine.Lake.zAk:a Mine.Lake.zAv:a Mine.Lake.zV:a Mine.Lake.zHa:a Mine.Lake.zW:a Mine.Lake.LLl:aa Mine.Lake.zX:a Nat.div_le_div_right:a Mine.Lake.zAp:aa Mine.Lake.zAo:a Mine.Lake.zY:a Mine.Lake.zBv:a Mine.Lake.LLo:a Mine.Lake.zAm:aa Mine.Lake.zN:aa Nat.add_le_add:aa Mine.Lake.LMb:aad Mine.Lake.zAn:aa Mine.Lake.zGb:aaa Mine.Lake.zAt:a Mine.Lake.zEf: Mine.Lake.LLe:a Mine.Lake.zAu:aa Mine.Lake.zPd:aa Mine.Lake.zQe:a Mine.Lake.zHc:a Mine.Lake.zBb:a Mine.Lake.zAz:a Mine.Lake.zHd:aa Mine.Lake.zEd:a Mine.Lake.zAw:aa Int.ofNat_lt: Mine.Lake.zIa:aa Mine.Lake.zAi:a Mine.Lake.zBc:a Mine.Lake.zBe:aa Mine.Lake.zBf: Mine.Lake.zAx:aa Mine.Lake.zIb:aaa Mine.Lake.LLk:a Mine.Lake.zBk:aa Mine.Lake.zBi:aaa Mine.Lake.zBg: Mine.Lake.zBj:aa Mine.Lake.LLc:a Mine.Lake.zBo:aad Mine.Lake.zAa:aa Mine.Lake.zBl:aa Mine.Lake.LLj:d Mine.Lake.zBm:a Mine.Lake.zIc:aa Mine.Lake.zQd:a Mine.Lake.zAy:aa Mine.Lake.LLa:a Mine.Lake.LMk:aa Mine.Lake.zKa:a Mine.Lake.zAe:a Mine.Lake.zPq:aa Mine.Lake.zHb:a Mine.Lake.zBs:aa Mine.Lake.LLp:a Mine.Lake.LLg:a Mine.Lake.zJb:aaa Mine.Lake.zBh:a Mine.Lake.zBp:aa Mine.Lake.zBa:a Mine.Lake.zEc:a Mine.Lake.zBq:a Mine.Lake.zBr:aa Mine.Lake.zCa:a Mine.Lake.zPo:aa Mine.Lake.zAc:a Mine.Lake.zS:a Mine.Lake.zBu:aa Mine.Lake.zBw:a Mine.Lake.zJa:aa Mine.Lake.zNb: Mine.Lake.zNa:a Mine.Lake.zBd:a Mine.Lake.zBt:aa Mine.Lake.zAq:a Mine.Lake.LLz:aad Mine.Lake.zMa:aaa Int.ofNat_lt.mp:a Mine.Lake.zOb:aaa Mine.Lake.zOa:aaa Mine.Lake.zAb:a Mine.Lake.zAf:a Mine.Lake.zPa:aa Mine.Lake.zPg: Int.natCast_pos: Nat.mul_div_cancel:_d Mine.Lake.zPb:aaa Mine.Lake.LMt:ad Mine.Lake.zPj:a Mine.Lake.zQg:a Mine.Lake.zPk:aa Mine.Lake.zPf:aa Mine.Lake.zAh:aa Mine.Lake.zPl:a Mine.Lake.LLb:a Mine.Lake.zEb:a Mine.Lake.zPh:aa Mine.Lake.zPn:aa Mine.Lake.zPr:a Mine.Lake.zAd:aaa Mine.Lake.zPs:a Mine.Lake.zPw:aa Mine.Lake.zPp:aaa Nat.div_eq_of_lt:a Mine.Lake.zPy: Mine.Lake.zPx:aa Mine.Lake.zPe:aa Mine.Lake.zQa:aa Mine.Lake.zPz:a Mine.Lake.zQb:aa Mine.Lake.zPm:a Mine.Lake.zQj: Mine.Lake.zJd:a Mine.Lake.zQh:a Mine.Lake.zQf:a Mine.Lake.zQk:a Mine.Lake.zQc:aa Mine.Lake.zPv:aaaa Mine.Lake.zPt:aa Mine.Lake.zQi:aa Mine.Lake.zKb:aaa Nat.le_of_lt:a Mine.Lake.LMl:a Nat.lt_trans:aa Nat.lt_succ_self:_ Nat.ne_of_lt:a Nat.le_of_succ_le:a Nat.not_lt.mpr:a Nat.zero_le:_ Int.ofNat_lt.mpr:a Nat.lt_of_le_of_lt:aa Int.natCast_nonneg:_ Nat.ne_of_gt:a".splitOn " "))]],
 rp "'lia '- !abstractProof 2.negConfigItem 1.configItem 1 1.optConfig 2.lia" []])
def mR(s:Syntax):MacroM Syntax:=
 if s[3].getNumArgs != 0 then tU else
 pure (pa (kE (λr=>let v:=r[0].getNumArgs != 0;let f:=λ(k:String × Nat)=>re ((if v then "s" else "r")++k.1) [ap r[1] (ho k.2)]
  fi (kE f [("wE",0),("wE",1),("wE",2),("wE",3),("wI",0),("wI",1)]++[rp "'rewrite 0 1.optConfig '[ $0 1 '] 3.rwRuleSeq 0 4.rewriteSeq" [r]])) s[2][1].getSepArgs.toList++[rp "'try $0 2.tacticTry_" [sq [rp "'with_reducible $0 2.withReducible" [sq [rp "'rfl 1.tacticRfl" []]]]]]))
def on(q:Syntax):Syntax:=
 let x:=q[0][0][0]
 if x.isIdent&&x.getId != `rfl&&q[0].getNumArgs == 1 then rp "'intro $0 1 2.intro" [x] else rp "'( 'intro !zz 1 2.intro '; 'obtain $0 1 0 ':= !zz 1 2 4.obtain 3 1.tacticSeq1Indented 1.tacticSeq ') 3.paren" [q]
def mB(s:Syntax):MacroM Syntax:=
 let q:=s[1][0][0]
 let l:=q[0][1].getSepArgs.toList
 if q.getNumArgs != 1||q[0].getKind != `Lean.Parser.Tactic.rcasesPat.tuple||s[2].getNumArgs != 0||l.length<2 then tU else
 let t:=s[3][1][0]
 pure (pa [fi [re "anE" [t],re "exE" [t]],rp "'try $0 2.tacticTry_" [sq [rp "'clear $0 1 2.clear" [t]]],on l.head![0],on (if l.length=2 then l[1]![0] else rp "'⟨ $0 '⟩ 3.rcasesPat.tuple 1 1.rcasesPatMed" [YT (l.tail.intersperse (.atom .none ","))])])
def mC(s:Syntax):MacroM Syntax:=
 let x:=s[1][0][1]
 if !x.isIdent||s[1].getNumArgs != 1||s[1][0][0].getNumArgs != 0||s[2].getNumArgs != 0||s[3].getNumArgs != 0 then tU else
 pure (fi [rp "'subst $0 1 2.subst" [x],rp "'( 'injection $0 0 3.injection '; 'done 1.done 3 1.tacticSeq1Indented 1.tacticSeq ') 3.paren" [x],rp "'( 'injection $0 'with !zz 1 2 3.injection '; 'subst !zz 1 2.subst 3 1.tacticSeq1Indented 1.tacticSeq ') 3.paren" [x],rp "'cases 0 '( !_ 1hygieneInfo 2_hygienicLParen $0 ') 3_paren 2.elimTarget 1 0 0 4.cases" [x]])
def pj(t:Syntax)(n:Nat):Syntax:=n.repeat (λt=>ap (rp "!Prod.fst" []) [t]) t
def gs(n:Nat)(l:List Syntax):List Syntax:=l.zipIdx.map λx=>
 rp "'generalize 0 $0 '= $1 4.generalizeArg 1 0 3.generalize" [let t:=pj (rp "!zz" []) (n - 1 - x.2);if x.2=0 then t else ap (rp "!Prod.snd" []) [t],x.1]
def mI(s:Syntax):MacroM Syntax:=
 let l:=kE (λ(x:Syntax)=>if x.isIdent then x else x[0][0]) s[1].getArgs.toList
 let n:=l.length
 pure (pa ([rp "'revert $0 2.revert" [YT l],
  rp "'refine $0 2.refine" [ap (rp s!"'@ !Mine.Lake.hk{n} 2_explicit" []) (ho n++[rp "'? '_ 2_syntheticHole" [],rp "'_ 1_hole" [],rp "'? '_ 2_syntheticHole" []])],
  rp "'focus $0 2.focus" [sq [rp "'repeat' $0 2.repeat'" [sq [fi [rp "'apply !Mine.Lake.nP 2.apply" [],rp "'infer_instance 1.tacticInfer_instance" [],rp "'exact '⟨ $0 1 '⟩ 3_anonymousCtor 2.exact" [tb (rp "'repeat' $0 2.repeat'" [sq [fi [al "default:",rp "'intro '_ 1_hole 1 2.intro" [],rp "'constructor 1.constructor" []]]])]]]]]],
  rp "'generalize 0 $0 '= !zz 4.generalizeArg 1 0 3.generalize" [ap (rp s!"!Mine.Lake.tp{n}" []) (ho 2)]]++gs n l++[rp "'clear !zz 1 2.clear" [],rp "'unhygienic $0 2.tacticUnhygienic_" [sq [rp "'intros 0 2.intros" []]]]))
end
theorem cy{p:Prop}[Decidable p](h:decide p=true):p:=of_decide_eq_true h
theorem cz{p:Prop}[Decidable p](h:decide p=false):¬p:=of_decide_eq_false h
theorem cA{p:Prop}[Decidable p]:(decide p=true)=p:=decide_eq_true_eq
theorem cC{p:Prop}[Decidable p](h:p):decide p=true:=decide_eq_true h
theorem cD{p:Prop}[Decidable p](h:¬p):decide p=false:=decide_eq_false h
theorem cF{p:Prop}{i:Decidable p}:decide p=false↔¬p:=decide_eq_false_iff_not
theorem cG.{u}{c:Prop}{h:Decidable c}(q:c){α:Sort u}{x y:α}:ite c x y=x:=if_pos q
theorem cH.{u}{c:Prop}{h:Decidable c}(q:¬c){α:Sort u}{x y:α}:ite c x y=y:=if_neg q
theorem cI.{u, v}{α:Sort u}{β:Sort v}{a b:α}(f:α->β)(h:a=b):f a=f b:=congrArg f h
theorem cJ{a b:Prop}(h:a)(g:¬a):b:=absurd h g
theorem cK.{u}{α:Type u}[BEq α][LawfulBEq α]{a b:α}(h:(a==b)=true):a=b:=eq_of_beq h
end Mine.Lake
namespace Mine.Lake
section
open Lean (Syntax MacroM)
def st0:Syntax->Option Syntax:=Nat.repeat (λf=>fun
 | .node i k a=>((cn a.size).find? λj=>(a.getD j .missing).getHeadInfo?.isSome).bind λj=>(f (a.getD j .missing)).map λy=>.node i k (a.set! j y)
 | .atom (.original ..) v=>J (.atom .none v)
 | _=>U) 10 λw=>U
def mD(s:Syntax):MacroM Syntax:=match st0 s with
 | some y=>
  let k:=y[1].getKind
  let x:=if k == `Lean.Parser.Command.definition||k == `Lean.Parser.Command.abbrev then y.setArg 0 (y[0].setArg 4 (rp "'noncomputable 1Lean.Parser.Command.noncomputable 1" [])) else y
  pure (if(s.find? λn=>n.isOfKind `Lean.Parser.Tactic.renameI).isSome then rp "'set_option !tactic.hygienic 0 'true 4Lean.Parser.Command.set_option 'in $0 3Lean.Parser.Command.in" [x] else x)
 | none=>tU
def mE(_:Syntax):MacroM Syntax:=pure (tb (rp "'decide 0 1.optConfig 2.decide" []))
def mK(s:Syntax):MacroM Syntax:=if s[1].getNumArgs != 0 then tU else pure (tb (rp "'kernel_rfl 1tacticKernel_rfl" []))
def mL(_:Syntax):MacroM Syntax:=pure (rp "!Mine.Lake.r_loc !rfl 1 2_app" [])
def mP(s:Syntax):MacroM Syntax:=if s[1].getNumArgs != 0 then tU else pure (rp "!Mine.Lake.oj !HMul.hMul !F !R 2 2_app !cs !au !az !aA !av !kx !ay 8 2_app" [])
end
end Mine.Lake
section
local macro_rules (kind := Lean.Parser.Command.declaration) | s => Mine.Lake.mD s
local macro_rules (kind := Lean.Parser.Term.omission) | s => Mine.Lake.mE s
theorem MineH.Lake.said0:iy dh=b9:=by
 delta iy PySem.W.Fast.tw17960256430627541270 PySem.W.Fast.tw2436336058641802641
 repeat' with_reducible refine look_both ?_ ?_
 all_goals decide +kernel
theorem MineH.Lake.said:dh.wellSaid=b9:=(congrFun PySem.W.Fast.te9446332074065402090 _).trans MineH.Lake.said0
namespace Mine.Lake
noncomputable section
theorem anE{a b q:Prop}(h:a/\b)(k:a->b->q):q:=k h.1 h.2
theorem exE.{u}{α:Sort u}{p:α->Prop}{q:Prop}(h:∃x,p x)(k:∀x,p x->q):q:=h.elim k
@[elab_as_elim] theorem rwE.{u}{α:Sort u}{a b:α}{motive:α->Prop}(h:a=b)(x:motive b):motive a:=h▸x
@[elab_as_elim] theorem swE.{u}{α:Sort u}{a b:α}{motive:α->Prop}(h:b=a)(x:motive b):motive a:=h▸x
@[elab_as_elim] theorem rwI{motive:Prop->Prop}(h:a↔b)(x:motive b):motive a:=propext h▸x
@[elab_as_elim] theorem swI{motive:Prop->Prop}(h:b↔a)(x:motive b):motive a:=propext h▸x
end
end Mine.Lake
local macro_rules (kind := Lean.Parser.Tactic.rwSeq) | s => Mine.Lake.mR s
local macro_rules (kind := Lean.Parser.Tactic.cases) | s => Mine.Lake.mC s
local macro_rules (kind := Lean.Parser.Tactic.obtain) | s => Mine.Lake.mB s
namespace Mine.Lake
noncomputable section
theorem bc(h:¬¬G):G:=cM h
theorem u2(h:x<2):x=0\/x=1:=(Nat.lt_or_ge x 1).elim (λz=>.inl (Nat.lt_one_iff.mp z)) λz=>.inr (ix (dk h) z)
theorem f2:1 - x<2:=gn (eO _ _)
theorem ff2(h:x<2):1 - (1 - x)=x:=(u2 h).elim (λe=>by rw[e]) λe=>by rw[e]
theorem VN(h:a<b):b - a=b - (a+1)+1:=(jJ (gr h)).symm
theorem IO(h:1<=x/\x<=6):x=1\/x=2\/x=6\/x=3\/x=4\/x=5:=(by decide:∀x<7,1<=x->x=1\/x=2\/x=6\/x=3\/x=4\/x=5) x (gn h.2) h.1
theorem YV(h:2<=x/\x<=6):x=2\/x=6\/x=3\/x=4\/x=5:=(IO ⟨dJ h.1,h.2⟩).resolve_left λe=>cJ h.1 (by rw[e];decide)
theorem aaU(h:1<=x/\x<=6)(n:¬x=1):x∈([2,3,4,5,6]:List Nat):=by
 rcases (IO h).resolve_left n with e | e | e | e | e<;>rw[e]<;>decide
theorem abk(h:1<=x/\x<=6)(n:¬x=1)(m:¬x=6):x∈([2,3,4,5]:List Nat):=by
 rcases ((IO h).resolve_left n) with e | e | e | e | e
 .rw[e];decide
 .exact cJ e m
 all_goals rw[e];decide
theorem ZE(h:1<=x/\x<=6)(n1:¬x=1)(n4:¬x=4)(n5:¬x=5)(n6:¬x=6):x=2\/x=3:=
 ((IO h).resolve_left n1).elim .inl λe=>.inr ((e.resolve_left n6).elim id λe=>cJ (e.resolve_left n4) n5)
theorem ZU(h:x∈([2,3,4,5]:List Nat)):2<=x/\x<=5:=(by decide:∀x∈([2,3,4,5]:List Nat),2<=x/\x<=5) x h
theorem Zy(h:x∈([2,3,4,5,6]:List Nat)):2<=x/\x<=6:=(by decide:∀x∈([2,3,4,5,6]:List Nat),2<=x/\x<=6) x h
theorem Un(hp:p<4)(e:x/8=s)(h:x<16):(x/8*8+2+p)/8=s/\x/8*8+2+p<16/\1<=(x/8*8+2+p)%8/\(x/8*8+2+p)%8<=6:=by
 subst e;exact(by decide:∀p<4,∀x<16,(x/8*8+2+p)/8=x/8/\x/8*8+2+p<16/\1<=(x/8*8+2+p)%8/\(x/8*8+2+p)%8<=6) p hp x h
theorem oth(hc:c<2)(hs:s<2)(n:¬c=s):c=1 - s:=(by decide:∀c<2,∀s<2,¬c=s->c=1 - s) c hc s hs n
theorem Ly(h:x<16)(g:s<2)(n:¬x/8=s):x/8=1 - s:=by
 have d:∀s<2,∀x<16,¬x/8=s->x/8=1 - s:=by decide
 exact d s g x h n
theorem RK(g:s<2):(1 - s)*8+6=14 - 8*s/\14 - 8*(1 - s)=s*8+6:=by
 have d:∀s<2,(1 - s)*8+6=14 - 8*s/\14 - 8*(1 - s)=s*8+6:=by decide
 exact d s g
theorem PW(h:x=s*8+6):x/8=s/\x%8=6/\x≠0:=by
 subst h;exact⟨by rw[dY,ki _ _ ⋯];exact d6 s,by rw[dY,jn],iQ _⟩
theorem Y7{a b c:Nat}(e:a=b)(h:b<=c):a<=c:=e▸h
theorem leL{a b c d:Nat}(e:a=b)(h:b<=c)(g:c<d):a<d:=ar (Y7 e h) g
theorem anL{p q:Nat}{a b c:Nat}(h:p<=q/\a<=b)(g:b<c):a<c:=ar h.2 g
theorem lt_eq{a b c:Nat}(h:a<b)(e:c=b):a<c:=e▸h
section
variable{a b c d f g h i j k l m n q r s t u v w x y z F R L N:Nat}{p p' p'' p3 G:Prop}{X Y:Int}
@[elab_as_elim] theorem V7{P:Nat->Prop}{d:Nat}(h:d<4)(a:P 0)(b:P 1)(c:P 2)(e:P 3):P d:=by
 rcases d with _ | _ | _ | _ | d
 .exact a
 .exact b
 .exact c
 .exact e
 .exact cJ h (fX.mpr (i0 4 d))
@[elab_as_elim] theorem lt8{P:Nat->Prop}{d:Nat}(h:d<8)(a:P 0)(b:P 1)(c:P 2)(e:P 3)(a':P 4)(b':P 5)(c':P 6)(e':P 7):P d:=
 (Nat.lt_or_ge d 4).elim (λz=>V7 z a b c e) λz=>by
  obtain⟨d,rfl⟩:=fP z;exact V7 (P:=λd=>P (4+d)) (jw h) a' b' c' e'
theorem LLa(h:0<n):n - 1<n:=gL h iB
theorem LLb(h:j<n - k):j<n:=cQ h (eO _ _)
theorem LLc(h:j<m - n):n+j<m:=Nat.add_lt_of_lt_sub' h
theorem LLd(h:n<=m):n+(m - n)=m:=gZ h
theorem LLf(h:n<=m):m=n+(m - n):=(gZ h).symm
theorem LLe(h:¬n<k):n=n - k+k:=(eP (d7 h)).symm
theorem LLg(h:i<min n m):i<n:=cQ h (i5 _ _)
theorem LLh(h:a<c)(g:c<=k):a - b<k:=ar (eO _ _) (cQ h g)
theorem LLi(h:a<=c)(g:c<k):a - b<k:=ar (eO _ _) (ar h g)
theorem LLj(h:a<k):a - b<k:=ar (eO _ _) h
theorem LLk(h:x+n<k):x+min j n<k:=ar (dn (jK _ _) _) h
theorem LLl(h:x+c<k)(g:n<=c):x+min j n<k:=ar (dn (cS (jK _ _) g) _) h
theorem LLm(h:¬i<n)(g:i - n=0):i=n:=ix (Nat.sub_eq_zero_iff_le.mp g) (d7 h)
theorem LLn(h:x=1 - s):¬x=s:=λe=>by rw[e] at h;cases s with | zero=>cases h | succ n=>rw[lJ,Nat.zero_sub] at h;cases h
theorem LLo(h:p/\x=1 - s):¬x=s:=LLn h.2
theorem LLp(e:h+1=n):n - 1+1=n:=by subst e;rfl
theorem LLu(h:x+n<k):x<k:=ar (di _ _) h
theorem LLx(h:j<n - c)(g:n<k):j<k:=cX (LLb h) g
theorem LLz(h:j<n - c)(g:n<k)(f:k<=m):j<m:=cQ (LLx h g) f
theorem LMb(h:a<b)(g:b<=c)(f:c<=m):a<m:=cQ (cQ h g) f
theorem LMk(h:j<n - 1)(g:k+j=n):1<k:=by subst g;exact jL λz=>eZ _ (cQ h (kF (dY j 1▸eM z j)))
theorem LMl(h:a<=b):a - c<=b:=cS (eO _ _) h
theorem LMt(g:p/\b<=c)(f:c<m):b - 1<m:=LLi g.2 f
theorem zA(h:s<12):((X+(((s - X)%12).toNat:Int))%12).toNat=s:=by
 rw[gC (mA _ ⋯),Int.add_emod_emod,Int.add_comm,jo,lK (dU s) (eK.mpr h)];rfl
theorem zB(h:s<L)(e:(c+(L - 1))%2=t%2)(g:c<2):(1 - c+L)%2=t%2:=by
 obtain⟨l,rfl⟩:=gJ (fh (jy h));rw[<- e];rcases u2 g with rfl | rfl
 .rw[d6,dY];exact lM l 2
 .rw[dY 1];exact cI (·%2) (d6 _)
theorem zC(e:F=k+1)(h:0<s/F/\s/F<R - 1):F<=s/\s+F<F*R:=
 ⟨d7 λz=>fh h.1 (hO z),cQ (g9 (kR s (e▸fJ k)) F) (ig F (kj.mp h.2))⟩
theorem z64(e:X=n)(l:n<64):0<=X/\X.toNat<64:=by subst e;exact⟨dU _,l⟩
theorem zD(h:g>=1/\(g - 1>=f/\p)/\p')(l:g<21)(e:w=0):0<=(g:Int) - (f+1 - ((2*w:Nat):Int))/\((g:Int) - (f+1 - ((2*w:Nat):Int))).toNat<64:=by
 subst e;exact z64 (fK (n:=g) (m:=f+1) (Nat.add_le_of_le_sub h.1 h.2.1.1)).symm (ar (eO _ _) (cX l ⋯))
theorem zF(h:x=s)(g:s<2):x=1 - (1 - s):=h.trans (ff2 g).symm
theorem hv2(h:j<m/2):2*j+2<=m:=cS (hU (fT 2 (j+1))) ((km gu).mp h)
theorem hv3(h:2*j+2<=m):j<m/2:=(km gu).mpr (cS (hU (fT (j+1) 2)) h)
theorem hv4(h:j<(m - k)/2):k+2*j+2<=m:=by
 have z:2*j+1+k<m:=kj.mp (hv2 h);rw[dY] at z;exact z
theorem Yv(h:k+2*j+2<=m):j<(m - k)/2:=hv3 (Nat.le_sub_of_add_le (by rw[dY];exact h))
theorem ar1(h:j<(r - 2)/2)(e:x=4+2*j):0<x/\x<=r:=by
 subst e;have z:=hv4 h;rw[fo] at z;exact⟨cQ ⋯ (di 4 _),z⟩
theorem zCe(h:x%2=0/\4<=x):∃j,x=4+2*j:=by
 obtain⟨y,rfl⟩:=fP h.2;exact⟨y/2,cI (4+·) (kT (jU ((mF 2 2 y).symm.trans h.1))).symm⟩
theorem ar2(h:x%2=0/\4<=x)(hr:x<=r):∃j,j<(r - 2)/2/\x=4+2*j:=by
 obtain⟨j,rfl⟩:=zCe h;exact⟨j,Yv (by rw[fo];exact hr),rfl⟩
theorem ar3(hj:j<(r+1+1 - (a+4))/2):a+4+2*j<=r:=Nat.le_of_add_le_add_right (hv4 hj)
theorem ar4(h:q%2=0/\4<=q)(hr:a+q<=r):∃j,j<(r+1+1 - (a+4))/2/\a+4+2*j=a+q:=by
 obtain⟨j,rfl⟩:=zCe h;exact⟨j,Yv (eM (dI a 4 (2*j)▸hr) 2),dI _ _ _⟩
theorem zCd(n:Nat):(n+1)%2≠n%2:=λe=>by
 rw[mx] at e;rcases dK n with z | z<;>rw[z] at e<;>exact cJ e ⋯
theorem ar6(h:(u+i)%2=q)(h2:(u+(i+r))%2=q):r%2=0:=(dK r).resolve_right λz=>zCd (u+i) (by rw[h,<-h2,<-dI,mx (u+i) r,z,mx])
theorem ar7(h:q%2=0)(h0:0<q)(h4:¬4<=q):q=1+1:=(by decide:∀q<4,q%2=0->0<q->q=1+1) q (jL h4) h h0
theorem aA(x:Int):(if 0<x then(x - 1)/2+1 else 0)=(((x+1)/2).toNat:Int):=by
 by_cases h:0<x
 .rw[cG h,gC (Int.ediv_nonneg (Int.add_nonneg (hV h) ⋯) ⋯)];exact(Int.add_mul_ediv_left (x - 1) 1 ⋯).symm.trans (cI (·/2) (ip x (-1) 2))
 .rw[cH h,kU (Int.le_of_lt_add_one (ku ⋯ (gM (Int.add_le_add_right (Int.le_of_not_gt h) 1) ⋯)))];rfl
theorem KP{a b:Int}(ha:-1000000<a/\a<1000000)(hb:-1000000<b/\b<1000000):b - a<=4000000/\(b - a+1)/2<=4000000:=by
 have z:b - a<2000000:=Int.sub_lt_sub hb.2 ha.1;exact⟨hV (jV z ⋯),hV (ku ⋯ (jV (Int.add_lt_add_right z 1) ⋯))⟩
theorem zE:(((m:Int) - n+1)/2).toNat=(m+1 - n)/2:=by
 rw[show(m:Int) - n+1=((m+1:Nat):Int) - n from lr _ _ _];rcases lN n (m+1) with h | h
 .rw[<- fK h];rfl
 .rw[iO h,kU];exact Int.ediv_nonpos_of_nonpos_of_neg (kG (gx.mpr h)) ⋯
theorem zG(g:r<=n)(h:j<(r+1+1 - (a+4))/2):a+4+2*j<=n:=cS (ar3 h) g
theorem zH(h:s<N)(g:s<t):100+(N - t)<100+(N - s):=gD (kW h g) 100
theorem zI(g:r<=n)(h:j<(r - 2)/2):4+2*j<=n:=cS (ar1 h rfl).2 g
theorem zJ:min 15 n - 7<=8:=kH (i5 15 n) 7
theorem zK(h:x=1 - s)(e:x=s):G:=by
 subst e;exact cJ h (by cases x with | zero=>decide | succ n=>rw[lJ,Nat.zero_sub];exact iQ n)
theorem zL(h:p/\x=s)(g:p'/\p''/\x=1 - s/\p3):G:=zK g.2.2.1 h.2
theorem zM(h:p/\x=s)(g:p'/\a<b/\p''/\x=1 - s/\p3):G:=zK g.2.2.2.1 h.2
theorem zN(h:x=1 - s)(g:x=s/\p):G:=zK h g.1
theorem zCc(hj:j<n)(hn:n<=k)(hL:L<=min j n*c):L+c<=k*c:=cS (eM hL c) (jh _ c▸dQ c (cS (ar (i5 j n) hj) hn))
theorem zQ(hL:L<=min j n*4)(hj:j<n)(hn:n<=21)(h:x+84<1000):x+L+4<1000:=ar (dI x L 4▸dn (zCc hj hn hL) x) h
theorem zR(h:¬(x:Int) - y<0):(x:Int) - y=((x - y+(y - x):Nat):Int):=by
 have e:y<=x:=gx.mp (Int.le_of_sub_nonneg (Int.not_lt.mp h));rw[iO e,jW,fK e]
theorem zS(h:(x:Int) - y<0):-((x:Int) - y)=((x - y+(y - x):Nat):Int):=by
 have e:x<=y:=gx.mp (hV (Int.lt_of_sub_neg h));rw[iO e,d6,fK e,Int.neg_sub]
theorem zT(h:g>=1)(k:g - 1>=F):(g:Int)=((g - 1 - F:Nat):Int)+F+1:=cI fq (by rw[eP k,eP h])
theorem zU(h:(g:Int)=s+F - 1):g+1=s+F:=iq (show(g:Int)+1=s+F by rw[h,jo])
theorem zV(h:(g:Int)=s+F - 1):s=1+g - F:=by rw[dY,zU h,fp]
theorem zW(h:1+g>=F):(g:Int)=((1+g - F:Nat):Int)+F - 1:=by
 rw[show((1+g - F:Nat):Int)+F=((1+g - F+F:Nat):Int) from rfl,eP h,dY];exact(gO _ 1).symm
theorem zX(h:(g:Int)=s+F+1):s=g - 1 - F:=by rw[iq h];exact(fp s F).symm
theorem zY(h:(g:Int)=d+F+1):F<=g - 1:=by rw[iq h];exact i0 F d
theorem zZ(h:(g:Int)=s+ -F+1):g+F=s+1:=iq (show(g:Int)+F=s+1 by rw[h,lr,Int.neg_add_cancel_right])
theorem zAa(h:(g:Int)=s+ -F+1)(e:s≠F - 1):s=F+(g - 1):=by
 have z:=zZ h;cases g with
 | zero=>exact cJ (by rw[d6] at z;rw[z];rfl) e
 | succ g=>rw[fo] at z;rw[<- gy z,dY];rfl
theorem zAb(h:g>=1):(g:Int)=((F+(g - 1):Nat):Int)+ -F+1:=by
 obtain⟨g,rfl⟩:=fP h;rw[d8,dY F,dY 1];exact cI (·+1) (Int.add_neg_cancel_right (g:Int) F).symm
theorem zAc(h:2<=F):F - 1<F:=gL (cQ gu h) iB
theorem zAd(l:g<N)(h:(g:Int)=s+F - 1)(e:¬1+g<N):s+F=N:=zU h▸ix l (dY 1 g▸d7 e)
theorem zAe(h:(g:Int)=s+F):s=g - F:=by rw[iq h];exact(fp s F).symm
theorem zAf(h:g>=F):(g:Int)=((g - F:Nat):Int)+F:=cI fq (eP h).symm
theorem zCb(h:k<8):(c*8+k)%8=k:=by rw[Nat.mul_add_mod_self_right];exact hZ h
theorem zAg(h:1<=k/\k<=5):1<=(c*8+k)%8/\(c*8+k)%8<=6:=by
 rw[zCb (ar h.2 ⋯)];exact⟨h.1,cS h.2 ⋯⟩
theorem zAh(h:1<=k/\k<=5)(e:(c*8+k)%8=1):k=1:=(zCb (ar h.2 ⋯)).symm.trans e
theorem zAi(h:k<4):(c*8+(k+2))%8<7:=by rw[zCb (cX (g9 h 2) ⋯)];exact cX (g9 h 2) ⋯
theorem zAj(h:0<x)(g:y<=x - 1):0<x - y:=gr (ar g (gL h iB))
theorem zAk(h:j<n):j+1+(n - (j+1))=n:=gZ h
theorem zAl(h:0<n)(g:X<n):X.toNat<n:=(Int.toNat_lt' h).mpr g
theorem zAm(h:((g>=f/\p)/\p')/\p'')(l:g<21):0<=(g:Int) - f/\((g:Int) - f).toNat<64:=z64 (fK h.1.1.1).symm (ar (eO _ _) (cX l ⋯))
theorem zAn(l:g<21)(h:f<=7):0<=(g:Int) - -f/\((g:Int) - -f).toNat<64:=z64 (Int.sub_neg (g:Int) f) (cX (Nat.add_lt_add_of_lt_of_le l h) ⋯)
theorem zAo(h:x=0\/x=1):¬x=3:=λe=>by subst e;exact cJ h ⋯
theorem zAp(h:a*1+r=b)(g:r<a):a<=b/\b<a*2:=by subst h;exact⟨cS (hU (kI a).symm) (di _ _),gD g _⟩
theorem zAq(h:p/\p'/\1<=v%8/\p''):¬v=0:=λe=>by subst e;exact cJ h.2.2.1 ⋯
theorem zz0:s+F - 2*F*1=s - F:=by rw[kI,Nat.two_mul,Nat.add_sub_add_right]
theorem zAs:1 - s=0\/1 - s=1:=u2 f2
theorem zAt(h:¬b=0):-(b:Int)=-((b - 1:Nat):Int) - 1:=by
 obtain⟨n,rfl⟩:=gJ h;exact Int.neg_add (a:=n) (b:=1)
theorem zAu(h:a<=x)(g:¬x=a):a<=x - 1:=Nat.le_sub_one_of_lt (iz h (dT g))
theorem zAv(h:(t:Int)=s+X):(t - X).toNat=s:=by rw[h,gO];rfl
theorem zAw(h:F<=s/\p)(e:t=s+F - 2*F*1):(t:Int)=s+ -F:=by rw[e,zz0,fK h.1];rfl
theorem zAx(h:F<=s/\p)(e:(g:Int)=s+ -F):g=s+F - 2*F*1:=by rw[zz0];exact iq (e.trans (fK h.1).symm)
theorem zAy(h:F<=s)(e:t=s+F - 2*F*1):s=t+F:=by rw[e,zz0,eP h]
theorem zAz(h:p/\(g:Int)=s+X+1):(g - (X+1 - ((2*0:Nat):Int))).toNat=s:=by rw[show X+1 - ((2*0:Nat):Int)=X+1 from Int.sub_zero _,h.2,ip,gO];rfl
theorem zBa(h:p/\(g:Int)=s+X - 1):(g - (X+1 - ((2*1:Nat):Int))).toNat=s:=by rw[show X+1 - ((2*1:Nat):Int)=X+ -1 from lO X 1 2,h.2,show(s:Int)+X - 1=s+(X+ -1) from ip _ _ _,gO];rfl
theorem zBb(h:x+3<1000):x+min j [4,3,2].length<1000:=ar (dn (jK j 3) x) h
theorem zBc(h:i+1=L/\p):i=L - 1:=h.1▸rfl
theorem zBd(h:cu (1<n)=b9):n - 1<n:=gL (cX iB (cy h)) iB
theorem zBe(h:i+m=n)(g:i≠n):i+1+(m - 1)=n:=by
 cases m with
 | zero=>exact cJ h g
 | succ m=>rw[fo];exact h
theorem zBf:a+5+i - a - 5=i:=by rw[Nat.sub_sub,d8]
theorem zBg:5<=a+5+i - a:=by rw[dI,d8];exact di 5 i
theorem zBh(h:j<n):min j n*21+21<=n*21:=zCc h (da _) (da _)
theorem zBi(h:x+N<1000)(g:L<=m)(e:m+21<=N):x+L+21<1000:=ar (dI x L 21▸dn (cS (eM g 21) e) x) h
theorem zBj(g:s<L)(h:p/\x=y+(L - 1)):x+1=y+(L+1 - 1):=by
 rw[h.2,dI,eP (jy g)];rfl
theorem zBk(h:a<=b)(g:0<a):a - 1<b:=cQ (gL g iB) h
theorem zBl(h:k<=n)(g:cu (k=0)=cj):n - k<n:=have z:=ei (cz g);gL (cQ z h) z
theorem zBm(h:y<=a):(a:Int) - y=((a - y:Nat):Int):=(fK h).symm
theorem zBn(g:(s*8+6)/8≠s):G:=cJ (PW rfl).1 g
theorem zBo(h:n<=k+1)(g:k<a)(e:a<=b):n - 1<b:=ar (kF h) (cQ g e)
theorem zBp(h:x+1=n)(g:y+1=n):x - y=0:=by rw[gy (h.trans g.symm)];exact eE y
theorem zBq(h:x+2*y=a+y):a - y=x:=Nat.sub_eq_of_eq_add (Nat.add_right_cancel (m:=y) (by rw[<- h,Nat.two_mul,dI]))
theorem zCa(h:k<4):¬(c*8+2+k)%8=1:=by
 rw[dI,zCb (cX (gD h 2) ⋯),dY];exact λe=>cJ (gy e) (iQ k)
theorem zBr(h:k<4)(e:(c*8+2+k)%8=1):G:=cJ e (zCa h)
theorem zBs(h:v<16)(g:1<=v%8/\v%8<=6):v<15:=(by decide:∀v<16,v%8<=6->v<15) v h g.2
theorem zBt(h:a+b=n+c)(g:d+f=a+k):d+(b+f)=n+(c+k):=by rw[lP,g,lP,<-dI,h,dI]
theorem zBu(g:k<=5)(h:c<2):c*8+k<16:=ar (iF (dQ 8 (dk h)) g) ⋯
theorem zBv(h:j<2):min j n<=1:=cS (i5 j n) (dk h)
theorem zBw(h:n+k=m):((m:Int) - n).toNat=k:=by rw[<- h,Int.toNat_sub,d8]
theorem zDa(h:w<2)(l:g<21)(k:(1+g>=f/\p)/\p')(e:¬w=0):0<=(g:Int) - (f+1 - ((2*w:Nat):Int))/\((g:Int) - (f+1 - ((2*w:Nat):Int))).toNat<64:=by
 rw[(u2 h).resolve_left e];refine z64 (n:=1+g - f) ?_ (ar (eO _ _) (cX (gD l 1) ⋯));rw[fK k.1.1,show(f:Int)+1 - ((2*1:Nat):Int)=f - 1 from lO f 1 2,Int.sub_eq_add_neg,Int.neg_sub];show(g:Int)+(1+ -f)=1+g+ -f;rw[<- ip,Int.add_comm (g:Int) 1]
theorem zEa(h:c%16=0):∃k,c=2*(2*(2*(2*k))):=⟨c/16,by rw[<- lh 2 2 (c/16),<-lh 2 (2*2),<-lh 2];exact(kT (jU h)).symm⟩
theorem zEb(h:c%16=0):c%2=0:=by obtain⟨k,rfl⟩:=zEa h;exact g6 _ _
theorem zEc(h:c%16=0):c/2%2=0:=by obtain⟨k,rfl⟩:=zEa h;rw[fv _ gu];exact g6 _ _
theorem zEd(h:c%16=0):c/2/2%2=0:=by obtain⟨k,rfl⟩:=zEa h;rw[fv _ gu,fv _ gu];exact g6 _ _
theorem zEe(h:c%16=0):c/2/2/2%2=0:=by obtain⟨k,rfl⟩:=zEa h;rw[fv _ gu,fv _ gu,fv _ gu];exact g6 _ _
theorem zEf:c/2/2/2/2=c/16:=by rw[iG,iG,iG]
theorem zGb(h:0<L)(e:a+1+(L - 1)=L)(k:b+1=a):G:=by
 subst k;rw[dI,dY 1,eP h] at e;exact cJ e (fh (Nat.lt_add_of_pos_left (fJ b)))
theorem zHa(h:X.natAbs<2 ^ 64):-2 ^ 64<X:=Int.neg_lt_of_neg_lt (gM (Int.natAbs_neg X▸Int.le_natAbs) (eK.mpr h))
theorem zHb(h:X.natAbs<2 ^ 64):X<2 ^ 64:=gM Int.le_natAbs (eK.mpr h)
theorem zHc(h:-18446744073709551616<X/\X<18446744073709551616):X.natAbs<2 ^ 64:=by
 rcases Int.natAbs_eq X with e | e
 .exact eK.mp (e▸h.2)
 .exact eK.mp (Int.lt_of_neg_lt_neg (e▸h.1))
theorem zHd(h:0<X)(g:X<1000000):X.natAbs<2 ^ 30:=eK.mp (jV ((Int.natAbs_of_nonneg (hV h)).symm▸g) ⋯)
theorem zIa(h:L<=n - 1)(g:n<k):L<k:=ar (cS h (eO _ _)) g
theorem zIb(h:x+N*21<1000)(g:L<=a*21)(e:a+b<=N):x+L+b*21<1000:=ar (dI x L _▸dn (cS (eM g _) (jz a b 21▸dQ 21 e)) x) h
theorem zIc{q:Bool}(h:(cu (0<=Y)&&cu (Y<=1000000)&&q)=b9/\p)(g:n<=64):(n:Int)+Y<=2 ^ 27:=gz (Int.add_le_add (gx.mpr g) (cy (dc.mp (dc.mp h.1).1).2)) ⋯
theorem zJa(h:x+c+(a+b)<k)(g:y<=c):x+y+a<k:=ar (iF (dn g x) (di a b)) h
theorem zJb(h:x+c+(a+b)<k)(g:y<=c)(e:z<=a):x+y+z+b<k:=ar (dI (x+y) z b▸iF (dn g x) (eM e b)) h
theorem zJd(h:a+b<=21):0+273+(a*21+b*21)<1000:=ar (dn (jz a b 21▸dQ 21 h) (0+273)) ⋯
theorem zKa(h:i=a+k+1):i - a=k+1:=by rw[h,dI];exact d8 _ _
theorem zKb(h:N<=21)(e:c=N)(g:m<=c*25):m<1000000:=ar (cS g (dQ 25 (e▸h))) ⋯
theorem zMa(h:s<x+c)(g:c<=d)(e:d<=f):¬x+f=s:=λz=>cJ h (fX.mpr (z▸dn (cS g e) x))
theorem zNa(h:x=1 - x):G:=zK h rfl
theorem zNb:x%2=1↔¬x%2=0:=⟨λh e=>cJ (h.symm.trans e) i6,(dK x).resolve_left⟩
theorem zOa(h:x+168<1000)(g:L<=m*84)(e:m<=1):x+L+84<1000:=ar (dI x L 84▸dn (eM (cS g (dQ 84 e)) 84) x) h
theorem zOb(h:a<2)(g:b<2)(e:a=1↔b=1):a=b:=(u2 g).elim (λz=>((u2 h).resolve_right λy=>cJ (e.mp y) (z▸Nat.zero_ne_one)).trans z.symm) λz=>(e.mpr z).trans z.symm
theorem zPa(e:c=n)(h:j<=n):min j c+(n - j)=n:=by rw[e,i7 h,gZ h]
theorem zPb(h:(cu (a<=b)||decide (a<=c))=b9)(g:b<a)(e:c<a):G:=((ew.mp h).elim (λz=>cJ (cy z) (Nat.not_le.mpr g)) λz=>cJ (cy z) (Nat.not_le.mpr e))
theorem zPd(h:f<F)(g:x+F<=m):x+f<m:=cQ (gD h x) g
theorem zPe(h:f<F)(g:x+1*F<=m):x+f<m:=zPd h (kJ F▸g)
theorem zPf(h:x=1 - s/\p)(e:x=s):G:=zK h.1 e
theorem zPg:n - 1<=n+1 - 1:=eO n 1
theorem zPh(e:g+y=x)(h:x<=24):g<1000:=ar (cS (di g y) (e▸h)) ⋯
theorem zPj(h:s<N):k<k+(N - s):=fx (gr h)
theorem zPk(h:a+b=c+d)(e:x=y):a+x+b=c+y+d:=by rw[e,fo,h,fo]
theorem zPl(h:a+40*(d+1)+200<k):a+3+40*d+200<k:=ar (eM (dI a 3 _▸dn (dY 3 (40*d)▸dn ⋯ (40*d)) a) 200) h
theorem zPm(h:a+4*(d+1)<k):a+1+4*d<k:=ar (dI a 1 _▸dn (dY 1 (4*d)▸dn ⋯ (4*d)) a) h
theorem zPn(h:p/\x/8=s)(g:x%8=1):x=s*8+1:=by rw[<- g,<-h.2,fT];exact(gf x 8).symm
theorem zPo(h:a<=b)(g:c<=d):c+a<=b+d:=dY a c▸iF h g
theorem zPp(h:x+2<k)(g:L<=m)(e:m<=1):x+L<k:=ar (dn (cS g (cS e ⋯)) x) h
theorem zPq(h:s<2)(g:x=2*s\/x=2*s+1):x<4:=g.elim (λe=>e▸ar (ig 2 (dk h)) ⋯) λe=>e▸ar (eM (ig 2 (dk h)) 1) ⋯
theorem zPr(h:a<1000000000):-18446744073709551616<(a:Int)/\(a:Int)<18446744073709551616:=⟨gP ⋯ (dU a),jV (eK.mpr h) ⋯⟩
theorem zPs(h:k<=m):k/c<=m:=cS (mG k c) h
theorem zPt(h:m<=n)(g:cu (m≠0)=b9):m/2<n:=cQ (Nat.div_lt_self (ei (cy g)) ⋯) h
theorem zPu(h:k<a*2):k/2<a:=hB (fT a 2▸h)
theorem zPv(h:0<k)(g:k<n)(e:k%16=0)(l:n<=2 ^ 4):G:=cJ (hZ (cQ g l)▸e) (fh h)
theorem zPw(h:¬(q=0\/q=R - 1))(g:q<R):q+1<R:=iz g λe=>h (.inr (e▸rfl))
theorem zPx(h:i<c)(g:c+F*1<=m):i+F<m:=cQ (g9 h F) (kI F▸g)
theorem zPy:(X%12).toNat<12:=(jX (mA X ⋯)).mpr (Int.emod_lt_of_pos X ⋯)
theorem zPz(h:X≠2*(F:Int)/\p):¬X=((2*F:Nat):Int):=h.1
theorem zQa(h:i+m=n)(g:i≠n):m - 1<m:=gL (ei λe=>g (by rw[<- h,e];rfl)) iB
theorem zQb(h:x/8=s)(e:¬s=0):¬x=1:=λz=>e (by rw[<- h,z])
theorem zQc(h:¬x%8=6)(e:x=s*8+6):G:=cJ (PW e).2.1 h
theorem zQd(h:¬n=i):i<n+1↔i<n:=⟨λz=>iz (dk z) (dT h),λz=>g7 z⟩
theorem zQe(h:x=c*8+6):x/8=c:=(PW h).1
theorem zQf(h:x+2*y=a+b):(a:Int)+b - 2*y=x:=by rw[show(a:Int)+b=x+2*y from(cI fq h).symm,gO]
theorem zQg(h:r=a+b):min a r=a:=i7 (h▸di a b)
theorem zQh(h:k=2\/k=3\/k=4\/k=5\/k=6):k<7:=by rcases h with rfl | rfl | rfl | rfl | rfl<;>decide
theorem zQi(h:a<=b)(g:s<=0):s+a<=b:=by rw[Nat.le_zero.mp g,d6];exact h
theorem zQj:x%2<=1:=dk (mV _ gu)
theorem zQk(h:x<16):x/8<2:=hB h
end
end
end Mine.Lake
local macro_rules (kind := Lean.Parser.Tactic.lia) | s => Mine.Lake.mO s
namespace Mine.Lake
noncomputable section
section
open PySem
theorem nP{α β:Type}(a:Nonempty α)(b:Nonempty β):Nonempty (α × β):=a.elim λa=>b.elim λb=>⟨(a,b)⟩
section
variable{A B C D E F G H I Q K L M N O:Type}
def tp1(P:A->Prop):=λz=>@lQ _ z λc=>¬P c
theorem hk1{z}{P:A->Prop}(q:P (tp1 P z))(a):P a:=cM λk=>@jY _ (λc=>¬P c) ⟨a,k⟩ q
def tp2(P:A->B->Prop):=λz=>@lQ (A × B) z λc=>¬P c.1 c.2
theorem hk2{z}{P:A->B->Prop}(q:P (tp2 P z).1 (tp2 P z).2)(a b):P a b:=cM λk=>@jY _ (λc:A × B=>¬P c.1 c.2) ⟨(a,b),k⟩ q
def tp3(P:A->B->C->Prop):=λz=>tp2 (λc:A × B=>P c.1 c.2) z
theorem hk3{z}{P:A->B->C->Prop}(q:P (tp3 P z).1.1 (tp3 P z).1.2 (tp3 P z).2)(a b c):P a b c:=hk2 (P:=λc=>P c.1 c.2) q (a,b) c
def tp4(P:A->B->C->D->Prop):=λz=>tp3 (λc:A × B=>P c.1 c.2) z
theorem hk4{z}{P:A->B->C->D->Prop}(q:P (tp4 P z).1.1.1 (tp4 P z).1.1.2 (tp4 P z).1.2 (tp4 P z).2)(a b c d):P a b c d:=hk3 (P:=λc=>P c.1 c.2) q (a,b) c d
def tp5(P:A->B->C->D->E->Prop):=λz=>tp4 (λc:A × B=>P c.1 c.2) z
theorem hk5{z}{P:A->B->C->D->E->Prop}(q:P (tp5 P z).1.1.1.1 (tp5 P z).1.1.1.2 (tp5 P z).1.1.2 (tp5 P z).1.2 (tp5 P z).2)(a b c d e):P a b c d e:=hk4 (P:=λc=>P c.1 c.2) q (a,b) c d e
def tp6(P:A->B->C->D->E->F->Prop):=λz=>tp5 (λc:A × B=>P c.1 c.2) z
theorem hk6{z}{P:A->B->C->D->E->F->Prop}(q:P (tp6 P z).1.1.1.1.1 (tp6 P z).1.1.1.1.2 (tp6 P z).1.1.1.2 (tp6 P z).1.1.2 (tp6 P z).1.2 (tp6 P z).2)(a b c d e f):P a b c d e f:=hk5 (P:=λc=>P c.1 c.2) q (a,b) c d e f
def tp7(P:A->B->C->D->E->F->G->Prop):=λz=>tp6 (λc:A × B=>P c.1 c.2) z
theorem hk7{z}{P:A->B->C->D->E->F->G->Prop}(q:P (tp7 P z).1.1.1.1.1.1 (tp7 P z).1.1.1.1.1.2 (tp7 P z).1.1.1.1.2 (tp7 P z).1.1.1.2 (tp7 P z).1.1.2 (tp7 P z).1.2 (tp7 P z).2)(a b c d e f g):P a b c d e f g:=hk6 (P:=λc=>P c.1 c.2) q (a,b) c d e f g
def tp8(P:A->B->C->D->E->F->G->H->Prop):=λz=>tp7 (λc:A × B=>P c.1 c.2) z
theorem hk8{z}{P:A->B->C->D->E->F->G->H->Prop}(q:P (tp8 P z).1.1.1.1.1.1.1 (tp8 P z).1.1.1.1.1.1.2 (tp8 P z).1.1.1.1.1.2 (tp8 P z).1.1.1.1.2 (tp8 P z).1.1.1.2 (tp8 P z).1.1.2 (tp8 P z).1.2 (tp8 P z).2)(a b c d e f g h):P a b c d e f g h:=hk7 (P:=λc=>P c.1 c.2) q (a,b) c d e f g h
def tp9(P:A->B->C->D->E->F->G->H->I->Prop):=λz=>tp8 (λc:A × B=>P c.1 c.2) z
theorem hk9{z}{P:A->B->C->D->E->F->G->H->I->Prop}(q:P (tp9 P z).1.1.1.1.1.1.1.1 (tp9 P z).1.1.1.1.1.1.1.2 (tp9 P z).1.1.1.1.1.1.2 (tp9 P z).1.1.1.1.1.2 (tp9 P z).1.1.1.1.2 (tp9 P z).1.1.1.2 (tp9 P z).1.1.2 (tp9 P z).1.2 (tp9 P z).2)(a b c d e f g h i):P a b c d e f g h i:=hk8 (P:=λc=>P c.1 c.2) q (a,b) c d e f g h i
def tp10(P:A->B->C->D->E->F->G->H->I->Q->Prop):=λz=>tp9 (λc:A × B=>P c.1 c.2) z
theorem hk10{z}{P:A->B->C->D->E->F->G->H->I->Q->Prop}(q:P (tp10 P z).1.1.1.1.1.1.1.1.1 (tp10 P z).1.1.1.1.1.1.1.1.2 (tp10 P z).1.1.1.1.1.1.1.2 (tp10 P z).1.1.1.1.1.1.2 (tp10 P z).1.1.1.1.1.2 (tp10 P z).1.1.1.1.2 (tp10 P z).1.1.1.2 (tp10 P z).1.1.2 (tp10 P z).1.2 (tp10 P z).2)(a b c d e f g h i j):P a b c d e f g h i j:=hk9 (P:=λc=>P c.1 c.2) q (a,b) c d e f g h i j
def tp11(P:A->B->C->D->E->F->G->H->I->Q->K->Prop):=λz=>tp10 (λc:A × B=>P c.1 c.2) z
theorem hk11{z}{P:A->B->C->D->E->F->G->H->I->Q->K->Prop}(q:P (tp11 P z).1.1.1.1.1.1.1.1.1.1 (tp11 P z).1.1.1.1.1.1.1.1.1.2 (tp11 P z).1.1.1.1.1.1.1.1.2 (tp11 P z).1.1.1.1.1.1.1.2 (tp11 P z).1.1.1.1.1.1.2 (tp11 P z).1.1.1.1.1.2 (tp11 P z).1.1.1.1.2 (tp11 P z).1.1.1.2 (tp11 P z).1.1.2 (tp11 P z).1.2 (tp11 P z).2)(a b c d e f g h i j k):P a b c d e f g h i j k:=hk10 (P:=λc=>P c.1 c.2) q (a,b) c d e f g h i j k
def tp12(P:A->B->C->D->E->F->G->H->I->Q->K->L->Prop):=λz=>tp11 (λc:A × B=>P c.1 c.2) z
theorem hk12{z}{P:A->B->C->D->E->F->G->H->I->Q->K->L->Prop}(q:P (tp12 P z).1.1.1.1.1.1.1.1.1.1.1 (tp12 P z).1.1.1.1.1.1.1.1.1.1.2 (tp12 P z).1.1.1.1.1.1.1.1.1.2 (tp12 P z).1.1.1.1.1.1.1.1.2 (tp12 P z).1.1.1.1.1.1.1.2 (tp12 P z).1.1.1.1.1.1.2 (tp12 P z).1.1.1.1.1.2 (tp12 P z).1.1.1.1.2 (tp12 P z).1.1.1.2 (tp12 P z).1.1.2 (tp12 P z).1.2 (tp12 P z).2)(a b c d e f g h i j k l):P a b c d e f g h i j k l:=hk11 (P:=λc=>P c.1 c.2) q (a,b) c d e f g h i j k l
def tp13(P:A->B->C->D->E->F->G->H->I->Q->K->L->M->Prop):=λz=>tp12 (λc:A × B=>P c.1 c.2) z
theorem hk13{z}{P:A->B->C->D->E->F->G->H->I->Q->K->L->M->Prop}(q:P (tp13 P z).1.1.1.1.1.1.1.1.1.1.1.1 (tp13 P z).1.1.1.1.1.1.1.1.1.1.1.2 (tp13 P z).1.1.1.1.1.1.1.1.1.1.2 (tp13 P z).1.1.1.1.1.1.1.1.1.2 (tp13 P z).1.1.1.1.1.1.1.1.2 (tp13 P z).1.1.1.1.1.1.1.2 (tp13 P z).1.1.1.1.1.1.2 (tp13 P z).1.1.1.1.1.2 (tp13 P z).1.1.1.1.2 (tp13 P z).1.1.1.2 (tp13 P z).1.1.2 (tp13 P z).1.2 (tp13 P z).2)(a b c d e f g h i j k l m):P a b c d e f g h i j k l m:=hk12 (P:=λc=>P c.1 c.2) q (a,b) c d e f g h i j k l m
def tp14(P:A->B->C->D->E->F->G->H->I->Q->K->L->M->N->Prop):=λz=>tp13 (λc:A × B=>P c.1 c.2) z
theorem hk14{z}{P:A->B->C->D->E->F->G->H->I->Q->K->L->M->N->Prop}(q:P (tp14 P z).1.1.1.1.1.1.1.1.1.1.1.1.1 (tp14 P z).1.1.1.1.1.1.1.1.1.1.1.1.2 (tp14 P z).1.1.1.1.1.1.1.1.1.1.1.2 (tp14 P z).1.1.1.1.1.1.1.1.1.1.2 (tp14 P z).1.1.1.1.1.1.1.1.1.2 (tp14 P z).1.1.1.1.1.1.1.1.2 (tp14 P z).1.1.1.1.1.1.1.2 (tp14 P z).1.1.1.1.1.1.2 (tp14 P z).1.1.1.1.1.2 (tp14 P z).1.1.1.1.2 (tp14 P z).1.1.1.2 (tp14 P z).1.1.2 (tp14 P z).1.2 (tp14 P z).2)(a b c d e f g h i j k l m n):P a b c d e f g h i j k l m n:=hk13 (P:=λc=>P c.1 c.2) q (a,b) c d e f g h i j k l m n
def tp15(P:A->B->C->D->E->F->G->H->I->Q->K->L->M->N->O->Prop):=λz=>tp14 (λc:A × B=>P c.1 c.2) z
theorem hk15{z}{P:A->B->C->D->E->F->G->H->I->Q->K->L->M->N->O->Prop}(q:P (tp15 P z).1.1.1.1.1.1.1.1.1.1.1.1.1.1 (tp15 P z).1.1.1.1.1.1.1.1.1.1.1.1.1.2 (tp15 P z).1.1.1.1.1.1.1.1.1.1.1.1.2 (tp15 P z).1.1.1.1.1.1.1.1.1.1.1.2 (tp15 P z).1.1.1.1.1.1.1.1.1.1.2 (tp15 P z).1.1.1.1.1.1.1.1.1.2 (tp15 P z).1.1.1.1.1.1.1.1.2 (tp15 P z).1.1.1.1.1.1.1.2 (tp15 P z).1.1.1.1.1.1.2 (tp15 P z).1.1.1.1.1.2 (tp15 P z).1.1.1.1.2 (tp15 P z).1.1.1.2 (tp15 P z).1.1.2 (tp15 P z).1.2 (tp15 P z).2)(a b c d e f g h i j k l m n o):P a b c d e f g h i j k l m n o:=hk14 (P:=λc=>P c.1 c.2) q (a,b) c d e f g h i j k l m n o
end
end
end
end Mine.Lake
local macro_rules (kind := Lean.Elab.Tactic.Ext.ext) | s => Mine.Lake.mI s
section
local macro_rules (kind := Lean.Parser.Term.tuple) | s => Mine.Lake.mK s
namespace MineH.Lake
noncomputable section
abbrev pw:nN:=PySem.Challenge.pw_nt0468_01
def em(i:Nat):Stmt:=(pw.main.body.drop i).headD default
def Ko(s:Stmt)(i:Nat):Stmt:=if h:s.ctorIdx=2 then Stmt.ClassDef.elim s h (λw w w b w w w w w w w=>(b.drop i).headD default) else s
def Bs(st:Stmt)(qn:String):FuncData:=if h:st.ctorIdx=0 then kA st h (λname args body w w w scope w w w=>{name:=name,qualname:=bb qn,params:=args,body:=.stmts body,scope:=scope,globals:=builtinsNs,closure:=[],defaults:=.none,kwdefaults:=.none}) else default
def S(s:String)(t:Nat):nr:=.str (bb s) t
def I(i:Int)(t:Nat):nr:=.int i t
def E(P:nG)(s:String)(t:Nat)(v:nr):nM:=⟨gG P (bb s),.str (bb s) t,v⟩
def eR(P:nG)(l:List (String × Nat × Nat)):List nM:=l.map λx=>E P x.1 x.2.1 (.ref x.2.2)
def Q7:Nat->List Int->List nr
 | _,[]=>[]
 | b,i::l=>I i 0::I 0 0::.ref b::Q7 (b+7) l
def qV(xs:List nr):Obj:={cls:=.type "tuple",data:=.seq xs.toArray}
def lsO(xs:List nr)(n:Nat):Obj:={cls:=.type "list",data:=.seq xs.toArray n}
def zd(es:List nM)(n:Nat):Obj:={cls:=.type "dict",data:=.dict es.toArray n}
def ddO(c:nr)(es:List nM)(n:Nat):Obj:={cls:=c,data:=.dict es.toArray n}
def PI(st:Stmt)(qn:String):Obj:={cls:=.none,data:=.func (Bs st qn)}
def CZ(st:Stmt)(qn:String)(m c:nr):Obj:={cls:=.type "function",data:=.func {Bs st qn with globals:=mainNs,pyModule:=m,code:=c}}
def Ay(nm qn:String)(t line na:Nat)(fl a1 b a3 a2 vn vt fd:nr)(x:Nat):Obj:=
 {cls:=.type "code",data:=.fields #[S nm t,S qn (t+1),S "/claim/cut.py" (t+2),I line 0,I na 0,I 0 0,I 0 0,fl,a1,b,a3,a2,.none,vn,vt,fd,I x 0,I line 0,S "/claim/cut.py" (x+1)]}
def wk(c:nr)(d:Option Addr)(xs:List nr)(sl:List (Option nr)):Obj:={cls:=c,dict:=d,data:=.fields xs.toArray,slots:=sl.toArray}
def Wt(c:nr)(d:Option Addr)(sl:List (Option nr)):Obj:={cls:=c,dict:=d,data:=.plain,slots:=sl.toArray}
def U8(c:nr)(d:Option Addr)(nm:String)(bases mro:List nr)(ns:Addr)(qn:String)(hd:Bool)(_nsl:Nat)(subs:List nr)(ab dl:Bool)(co:Option Bool)(sl:List (Option nr)):Obj:=
 {cls:=c,dict:=d,data:=.cls {name:=bb nm,bases:=bases,mro:=mro,ns:=ns,qualname:=bb qn,hasDict:=hd,subclasses:=subs,abstract:=ab,collection:=co,hasDel:=dl},slots:=sl.toArray}
def tZ(xs:List nr):Obj->Obj
 | ⟨c,d,.fields vs,s⟩=>⟨c,d,.fields (vs.toList++xs).toArray,s⟩
 | o=>o
def nmS:List String->Nat->List nr
 | [],_=>[]
 | s::r,t=>S s t::nmS r (t+1)
def m0:nr:=S "chess.kinds" 187
def m1:nr:=S "chess.bits" 278
def m2:nr:=S "chess.lines" 312
def m3:nr:=S "chess.geometry" 401
def m4:nr:=S "chess.sliders" 562
def m5:nr:=S "chess.position" 629
def m6:nr:=S "chess.attacks" 728
def m7:nr:=S "chess.castling" 865
def m8:nr:=S "chess.piecemoves" 917
def m9:nr:=S "chess.pawnmoves" 956
def Pz:nr:=S "chess.evasions" 1094
def VJ:nr:=S "chess.legality" 1129
def XM:nr:=S "chess.movegen" 1168
def ua:nr:=S "chess.draws" 1192
def zc:nr:=S "chess.makemove" 1336
def M2:nr:=S "law_nt0468_01" 1486
def cB(q:String)(t l n a k:Nat):Obj:=Ay q q t l n (I 3 0) (.ref a) (.bool b9) (I 181 0) (.ref (a+1)) (.ref (a+2)) (.ref (a+3)) (.ref (a+4)) (t+3+k)
def fB(m:nr)(st:Stmt)(q:String)(t l n a:Nat)(vs:List String)(r:List Obj):List Obj:=qV []::wk .none U [] []::qV (nmS vs (t+3))::qV []::PI st q::cB q t l n a vs.length::CZ st q m (.ref (a+5))::r
def kB(m:nr)(st:Stmt)(q:String)(t l n a k:Nat)(r:Frag):Frag:=(a+5,cB q t l n a k)::(a+6,CZ st q m (.ref (a+5)))::r
def xY(ov:List (Nat × nr))(es:List nM):List nM:=ov.foldl (λes iv=>es.modify iv.1 λe=>⟨e.hash,e.key,iv.2⟩) es
def wS:BT->Nat->List Obj->BT
 | af,_,[]=>af
 | af,n,o::r=>wS (af.ins n o) (n+1) r
abbrev py:Life:={}
def oU:Env:={scope:=pw.main.scope,locals:=mainNs,globals:=mainNs,cells:=[],code:=.ref 13,frame:=J 14}
abbrev cE:Code:=.body (behindTheImports pw) oU
abbrev B0:List Frame:=[topFrame ⟨0,0,0,0⟩]
abbrev pG(w:nO):=PySem.W.Fast.tw10110043849684766642 fV pw w 11 (J (.ref 6)) 1
def YW(P:nG):List nM:=[E P "__name__" 165 (S "__main__" 164),E P "__doc__" 166 .none,E P "__package__" 167 .none,E P "__loader__" 168 (.builtin "__main__.__loader__#opaque"),E P "__spec__" 169 .none,E P "__annotations__" 170 (.ref 6),E P "__builtins__" 171 (.ref 4),E P "__file__" 173 (S "/claim/cut.py" 172),E P "__cached__" 174 .none]
def Z8(P:nG):List Obj:=[boot_o_0 P,
 boot_o_1 P,
 boot_o_2 P,
 boot_o_3 P,
 boot_o_4 P,
 boot_o_5 P,
 boot_o_6 P,
 boot_o_7 P,
 boot_o_8 P,
 boot_o_9 P,
 Wt (.type "frame") U [J (.ref 9),J (.ref 3),J (.ref 3),U,J (S "__main__" 164),U,J (.ref 0)],
 qV [],
 wk .none U [] [],
 Ay "<module>" "<module>" 182 1 0 (I 0 0) (.ref 11) (.bool cj) (I 181 0) (.ref 12) .none .none .none 185,
 Wt (.type "frame") U [J (.ref 13),J (.ref 3),J (.ref 3),U,J (S "__main__" 164),U,J (.ref 0)]]
def T0(P:nG):BT:=wS .nil 0 (Z8 P)
def Zn(P:nG):List Obj:=fB m0 (em 15) "make_piece" 217 16 2 15 ["side","kind"] <|
 fB m0 (em 16) "side_of" 225 18 1 22 ["piece"] <|
 fB m0 (em 17) "kind_of" 232 20 1 29 ["piece"] <|
 fB m0 (em 18) "pack_move" 239 22 4 36 ["origin","to","special","promo","field"] <|
 fB m0 (em 19) "move_from" 250 27 1 43 ["move"] <|
 fB m0 (em 20) "move_to" 257 29 1 50 ["move"] <|
 fB m0 (em 21) "move_special" 264 31 1 57 ["move"] <|
 fB m0 (em 22) "move_promo" 271 33 1 64 ["move"] <|
 []
def Wf(P:nG):List nM:=xY [(0,S "chess.bits" 278)] (YW P)++[E P "WHITE" 190 (I 0 189),E P "BLACK" 192 (I 1 191),E P "NO_KIND" 194 (I 0 193),E P "PAWN" 196 (I 1 195),E P "KNIGHT" 198 (I 2 197),E P "BISHOP" 200 (I 3 199),E P "ROOK" 202 (I 4 201),E P "QUEEN" 204 (I 5 203),E P "KING" 206 (I 6 205),E P "EMPTY" 208 (I 0 207),E P "NORMAL" 210 (I 0 209),E P "PROMOTION" 212 (I 1 211),E P "EN_PASSANT" 214 (I 2 213),E P "CASTLING" 216 (I 3 215)]++eR P [("make_piece",224,21),("side_of",231,28),("kind_of",238,35),("pack_move",249,42),("move_from",256,49),("move_to",263,56),("move_special",270,63),("move_promo",277,70)]
def T1(P:nG):BT:=(((wS (T0 P) 15 (Zn P)).set 3 (λw=>zd (Wf P) 31)).set 12 (tZ (Q7 20 [16,18,20,22,27,29,31,33])))
theorem W7(w:nO)(os:nK):pG w 382 ⟨T0 w.params,15,py,#[],nD,187,os⟩ (piecesOf ((pw.main.body.drop 0).take 24) oU cE ⟨0,0,0,0⟩ B0)=J (.next,⟨T1 w.params,71,py,#[],nD,280,os⟩,cE,⟨37,0,37,8⟩):=()
def ZS(P:nG):List Obj:=fB m1 (em 24) "more_than_one" 280 38 1 71 ["b"] <|
 fB m1 (em 25) "highest" 287 40 1 78 ["b","width","square"] <|
 fB m1 (em 26) "lowest" 296 53 1 85 ["b"] <|
 fB m1 (em 27) "squares_of" 303 55 1 92 ["b","out","square"] <|
 fB m2 (em 29) "direction" 314 68 3 99 ["geo","a","b","d"] <|
 fB m2 (em 30) "between" 324 73 3 106 ["geo","a","b","d"] <|
 fB m2 (em 31) "line" 334 78 3 113 ["geo","a","b","d"] <|
 fB m2 (em 32) "aligned" 344 83 4 120 ["geo","a","b","c"] <|
 []
def Vv(P:nG):List nM:=xY [(0,S "chess.errors" 354)] (Wf P)++eR P [("more_than_one",286,77),("highest",295,84),("lowest",302,91),("squares_of",311,98),("direction",323,105),("between",333,112),("line",343,119),("aligned",353,126)]
def T2(P:nG):BT:=(((wS (T1 P) 71 (ZS P)).set 3 (λw=>zd (Vv P) 39)).set 12 (tZ (Q7 76 [38,40,53,55,68,73,78,83])))
theorem WI(w:nO)(os:nK):pG w 267 ⟨T1 w.params,71,py,#[],nD,280,os⟩ (piecesOf ((pw.main.body.drop 24).take 10) oU cE ⟨37,0,37,8⟩ B0)=J (.next,⟨T2 w.params,127,py,#[],nD,356,os⟩,cE,⟨85,0,85,8⟩):=()
def Zk(P:nG):List Obj:=[qV [.type "Exception"],
 wk (.type "builtin_function_or_method") U [.builtin "type.__prepare__",.type "type"] [],
 zd [E P "__module__" 363 (S "chess.errors" 354),E P "__qualname__" 365 (S "ChessError" 364),E P "__firstlineno__" 367 (I 86 366),E P "__init__" 375 (.ref 140),E P "__static_attributes__" 377 (.ref 141)] 5,
 qV [],
 wk .none U [I 88 0,I 4 0,.ref 139] [],
 Ay "ChessError" "ChessError" 358 86 0 (I 0 0) (.ref 130) (.bool cj) (I 181 0) (.ref 131) .none .none .none 361,
 Wt (.type "frame") U [J (.ref 132),J (.ref 3),J (.ref 129),U,J (S "chess.errors" 354),U,J (.ref 0)],
 qV [],
 wk .none U [] [],
 qV [S "self" 371,S "text" 372],
 qV [],
 PI (Ko (em 34) 0) "ChessError.__init__",
 Ay "__init__" "ChessError.__init__" 368 88 2 (I 3 0) (.ref 134) (.bool b9) (I 181 0) (.ref 135) (.ref 136) (.ref 137) (.ref 138) 373,
 CZ (Ko (em 34) 0) "ChessError.__init__" (S "chess.errors" 354) (.ref 139),
 qV [S "text" 376],
 zd ([E P "__module__" 363 (S "chess.errors" 354),E P "__firstlineno__" 367 (I 86 366)]++eR P [("__init__",375,140),("__static_attributes__",377,141),("__weakref__",379,144)]++[E P "__doc__" 380 .none]) 3,
 U8 (.type "type") U "ChessError" [.type "Exception"] [.ref 143,.type "Exception",.type "BaseException",.type "object"] 142 "ChessError" b9 0 [] cj cj U [J (.ref 127),U,J (S "ChessError" 356),J (S "ChessError" 364),J (.builtin "Exception.__new__"),J (.bool b9)],
 wk (.type "getset_descriptor") U [S "__weakref__" 378,.ref 143,.builtin "ExceptionGroup.__weakref__",.none] [],
 wk (.type "super") U [.ref 143,.ref 143,.ref 143] [],
 wk (.type "builtin_function_or_method") U [.builtin "object.__init_subclass__",.ref 143] []]
def Wg(P:nG):List nM:=xY [] (Vv P)++[E P "ChessError" 384 (.ref 143)]
def T3(P:nG):BT:=((((wS (T2 P) 127 (Zk P)).set 3 (λw=>zd (Wg P) 40)).set 2 (λw=>ddO .none [E P "type.__subclasses__.Exception.0" 381 (I 143 0),E P "type.__subclasses__.Exception.n" 382 (I 1 0)] 2)).set 12 (tZ [I 86 0,I 0 0,.ref 132]))
theorem WW(w:nO)(os:nK):pG w 229 ⟨T2 w.params,127,py,#[],nD,356,os⟩ (piecesOf ((pw.main.body.drop 34).take 1) oU cE ⟨85,0,85,8⟩ B0)=J (.next,⟨T3 w.params,147,py,#[],nD,385,os⟩,cE,⟨86,0,90,24⟩):=()
def Z5(P:nG):List Obj:=[qV [.ref 143],
 wk (.type "builtin_function_or_method") U [.builtin "type.__prepare__",.type "type"] [],
 zd [E P "__module__" 392 (S "chess.errors" 354),E P "__qualname__" 394 (S "BadMove" 393),E P "__firstlineno__" 396 (I 91 395),E P "__static_attributes__" 397 (.ref 154)] 4,
 qV [],
 wk .none U [] [],
 Ay "BadMove" "BadMove" 387 91 0 (I 0 0) (.ref 150) (.bool cj) (I 181 0) (.ref 151) .none .none .none 390,
 Wt (.type "frame") U [J (.ref 152),J (.ref 3),J (.ref 149),U,J (S "chess.errors" 354),U,J (.ref 0)],
 qV [],
 zd [E P "__module__" 392 (S "chess.errors" 354),E P "__firstlineno__" 396 (I 91 395),E P "__static_attributes__" 397 (.ref 154),E P "__doc__" 398 .none] 2,
 U8 (.type "type") U "BadMove" [.ref 143] [.ref 156,.ref 143,.type "Exception",.type "BaseException",.type "object"] 155 "BadMove" b9 0 [] cj cj U [J (.ref 147),U,J (S "BadMove" 385),J (S "BadMove" 393),J (.builtin "Exception.__new__"),J (.bool b9)],
 wk (.type "super") U [.ref 156,.ref 156,.ref 156] [],
 wk (.type "builtin_function_or_method") U [.builtin "object.__init_subclass__",.ref 156] [],
 qV [I 0 403,I 1 404,I 0 405,I (-1) 407,I 1 408,I 1 409,I (-1) 411,I (-1) 413],
 qV [I 1 415,I 0 416,I (-1) 418,I 0 419,I 1 420,I (-1) 422,I (-1) 424,I 1 425]]
def VG(P:nG):List nM:=xY [(0,S "chess.geometry" 401)] (Wg P)++eR P [("BadMove",400,156),("STEP_FILES",414,159),("STEP_RANKS",426,160)]
def T4(P:nG):BT:=((((wS (T3 P) 147 (Z5 P)).set 3 (λw=>zd (VG P) 43)).set 12 (tZ [I 91 0,I 0 0,.ref 152])).set 143 (λw=>U8 (.type "type") U "ChessError" [.type "Exception"] [.ref 143,.type "Exception",.type "BaseException",.type "object"] 142 "ChessError" b9 0 [.ref 156] cj cj U [J (.ref 127),U,J (S "ChessError" 356),J (S "ChessError" 364),J (.builtin "Exception.__new__"),J (.bool b9)]))
theorem Wz(w:nO)(os:nK):pG w 289 ⟨T3 w.params,147,py,#[],nD,385,os⟩ (piecesOf ((pw.main.body.drop 35).take 4) oU cE ⟨86,0,90,24⟩ B0)=J (.next,⟨T4 w.params,161,py,#[],nD,427,os⟩,cE,⟨95,0,95,10⟩):=()
def ZX(P:nG):List Obj:=fD [qV [],
 wk (.type "builtin_function_or_method") U [.builtin "type.__prepare__",.type "type"] [],
 zd [E P "__module__" 434 (S "chess.geometry" 401),E P "__qualname__" 436 (S "Geometry" 435),E P "__firstlineno__" 438 (I 96 437),E P "__init__" 449 (.ref 174),E P "__static_attributes__" 464 (.ref 175)] 5,
 qV [],
 wk .none U [I 98 0,I 4 0,.ref 173] [],
 Ay "Geometry" "Geometry" 429 96 0 (I 0 0) (.ref 164) (.bool cj) (I 181 0) (.ref 165) .none .none .none 432,
 Wt (.type "frame") U [J (.ref 166),J (.ref 3),J (.ref 163),U,J (S "chess.geometry" 401),U,J (.ref 0)],
 qV [],
 wk .none U [] [],
 qV [S "self" 442,S "files" 443,S "ranks" 444,S "has_double" 445,S "has_castling" 446],
 qV [],
 PI (Ko (em 39) 0) "Geometry.__init__",
 Ay "__init__" "Geometry.__init__" 439 98 5 (I 3 0) (.ref 168) (.bool b9) (I 181 0) (.ref 169) (.ref 170) (.ref 171) (.ref 172) 447,
 CZ (Ko (em 39) 0) "Geometry.__init__" (S "chess.geometry" 401) (.ref 173),
 qV [S "castles" 450,S "file_masks" 451,S "files" 452,S "full" 453,S "has_castling" 454,S "has_double" 455,S "king" 456,S "knight" 457,S "pawn" 458,S "rank_masks" 459,S "ranks" 460,S "rays" 461,S "rights_lost" 462,S "size" 463],
 zd ([E P "__module__" 434 (S "chess.geometry" 401),E P "__firstlineno__" 438 (I 96 437)]++eR P [("__init__",449,174),("__static_attributes__",464,175),("__dict__",466,178),("__weakref__",468,179)]++[E P "__doc__" 469 .none]) 4,
 U8 (.type "type") U "Geometry" [.type "object"] [.ref 177,.type "object"] 176 "Geometry" b9 0 [] cj cj U [U,U,J (S "Geometry" 427),J (S "Geometry" 435),J (.builtin "object.__new__"),J (.bool b9)],
 wk (.type "getset_descriptor") U [S "__dict__" 465,.ref 177,.builtin "function.__dict__",.builtin "function.__dict__#set"] [],
 wk (.type "getset_descriptor") U [S "__weakref__" 467,.ref 177,.builtin "ExceptionGroup.__weakref__",.none] [],
 wk (.type "super") U [.ref 177,.ref 177,.ref 177] [],
 wk (.type "builtin_function_or_method") U [.builtin "object.__init_subclass__",.ref 177] []] <|
 fB m3 (em 40) "is_growing" 472 113 1 182 ["d"] <|
 fB m3 (em 41) "add_masks" 479 115 1 189 ["geo","row","column","r","f"] <|
 fB m3 (em 42) "inner_squares" 490 123 2 196 ["geo","d","edge"] <|
 fB m3 (em 43) "add_rays" 499 134 1 203 ["geo","d","inner","delta","ray","order","square","goal"] <|
 fB m3 (em 44) "add_pawns" 513 149 1 210 ["geo","square"] <|
 []
def VO(P:nG):List nM:=xY [] (VG P)++eR P [("Geometry",471,177),("is_growing",478,188),("add_masks",489,195),("inner_squares",498,202),("add_rays",512,209),("add_pawns",520,216)]
def T5(P:nG):BT:=(((wS (T4 P) 161 (ZX P)).set 3 (λw=>zd (VO P) 49)).set 12 (tZ [I 96 0,I 0 0,.ref 166,I 113 0,I 0 0,.ref 187,I 115 0,I 0 0,.ref 194,I 123 0,I 0 0,.ref 201,I 134 0,I 0 0,.ref 208,I 149 0,I 0 0,.ref 215]))
theorem XR(w:nO)(os:nK):pG w 398 ⟨T4 w.params,161,py,#[],nD,427,os⟩ (piecesOf ((pw.main.body.drop 39).take 6) oU cE ⟨95,0,95,10⟩ B0)=J (.next,⟨T5 w.params,217,py,#[],nD,521,os⟩,cE,⟨149,0,152,90⟩):=()
def ZZ(P:nG):List Obj:=fB m3 (em 45) "add_knights" 521 153 1 217 ["geo","files","not_first","not_last","not_first_two","not_last_two","square","b","near","far","found"] <|
 fB m3 (em 46) "add_castles" 538 165 1 224 ["geo","start","index","base","corner","way","goal"] <|
 fB m3 (em 47) "make_geometry" 551 182 4 231 ["files","ranks","has_double","has_castling","geo"] <|
 fB m4 (em 49) "ray_attacks" 564 193 4 238 ["geo","d","square","occupied","ray","stop","behind"] <|
 fB m4 (em 50) "rook_attacks" 577 208 3 245 ["geo","square","occupied","found","d"] <|
 fB m4 (em 51) "bishop_attacks" 588 213 3 252 ["geo","square","occupied","found","d"] <|
 fB m4 (em 52) "queen_attacks" 599 218 3 259 ["geo","square","occupied"] <|
 fB m4 (em 53) "slider_attacks" 608 220 4 266 ["geo","kind","square","occupied"] <|
 fB m4 (em 54) "piece_attacks" 618 228 5 273 ["geo","side","kind","square","occupied"] <|
 []
def VY(P:nG):List nM:=xY [(0,S "chess.position" 629)] (VO P)++eR P [("add_knights",537,223),("add_castles",550,230),("make_geometry",561,237),("ray_attacks",576,244),("rook_attacks",587,251),("bishop_attacks",598,258),("queen_attacks",607,265),("slider_attacks",617,272),("piece_attacks",628,279)]
def T6(P:nG):BT:=(((wS (T5 P) 217 (ZZ P)).set 3 (λw=>zd (VY P) 58)).set 12 (tZ (Q7 222 [153,165,182,193,208,213,218,220,228])))
theorem Wv(w:nO)(os:nK):pG w 323 ⟨T5 w.params,217,py,#[],nD,521,os⟩ (piecesOf ((pw.main.body.drop 45).take 11) oU cE ⟨149,0,152,90⟩ B0)=J (.next,⟨T6 w.params,280,py,#[],nD,631,os⟩,cE,⟨236,0,236,8⟩):=()
def YY(P:nG):List Obj:=fD [qV [],
 wk (.type "builtin_function_or_method") U [.builtin "type.__prepare__",.type "type"] [],
 zd [E P "__module__" 638 (S "chess.position" 629),E P "__qualname__" 640 (S "Position" 639),E P "__firstlineno__" 642 (I 237 641),E P "__init__" 651 (.ref 293),E P "__static_attributes__" 664 (.ref 294)] 5,
 qV [],
 wk .none U [I 239 0,I 4 0,.ref 292] [],
 Ay "Position" "Position" 633 237 0 (I 0 0) (.ref 283) (.bool cj) (I 181 0) (.ref 284) .none .none .none 636,
 Wt (.type "frame") U [J (.ref 285),J (.ref 3),J (.ref 282),U,J (S "chess.position" 629),U,J (.ref 0)],
 qV [],
 wk .none U [] [],
 qV [S "self" 646,S "geo" 647,S "zob" 648],
 qV [],
 PI (Ko (em 56) 0) "Position.__init__",
 Ay "__init__" "Position.__init__" 643 239 3 (I 3 0) (.ref 287) (.bool b9) (I 181 0) (.ref 288) (.ref 289) (.ref 290) (.ref 291) 649,
 CZ (Ko (em 56) 0) "Position.__init__" (S "chess.position" 629) (.ref 292),
 qV [S "board" 652,S "ep" 653,S "full" 654,S "geo" 655,S "half" 656,S "history" 657,S "key" 658,S "kinds" 659,S "rights" 660,S "side" 661,S "sides" 662,S "zob" 663],
 zd ([E P "__module__" 638 (S "chess.position" 629),E P "__firstlineno__" 642 (I 237 641)]++eR P [("__init__",651,293),("__static_attributes__",664,294),("__dict__",666,297),("__weakref__",668,298)]++[E P "__doc__" 669 .none]) 4,
 U8 (.type "type") U "Position" [.type "object"] [.ref 296,.type "object"] 295 "Position" b9 0 [] cj cj U [U,U,J (S "Position" 631),J (S "Position" 639),J (.builtin "object.__new__"),J (.bool b9)],
 wk (.type "getset_descriptor") U [S "__dict__" 665,.ref 296,.builtin "function.__dict__",.builtin "function.__dict__#set"] [],
 wk (.type "getset_descriptor") U [S "__weakref__" 667,.ref 296,.builtin "ExceptionGroup.__weakref__",.none] [],
 wk (.type "super") U [.ref 296,.ref 296,.ref 296] [],
 wk (.type "builtin_function_or_method") U [.builtin "object.__init_subclass__",.ref 296] []] <|
 fB m5 (em 57) "put_piece" 672 252 3 301 ["pos","piece","s","bit"] <|
 fB m5 (em 58) "take_piece" 682 258 2 308 ["pos","s","piece","bit"] <|
 fB m5 (em 59) "shift_piece" 692 266 3 315 ["pos","a","b","piece","bits","numbers"] <|
 fB m5 (em 60) "occupied" 704 275 1 322 ["pos"] <|
 fB m5 (em 61) "pieces" 711 277 3 329 ["pos","side","kind"] <|
 []
def VE(P:nG):List nM:=xY [] (VY P)++eR P [("Position",671,296),("put_piece",681,307),("take_piece",691,314),("shift_piece",703,321),("occupied",710,328),("pieces",719,335)]
def T7(P:nG):BT:=(((wS (T6 P) 280 (YY P)).set 3 (λw=>zd (VE P) 64)).set 12 (tZ [I 237 0,I 0 0,.ref 285,I 252 0,I 0 0,.ref 306,I 258 0,I 0 0,.ref 313,I 266 0,I 0 0,.ref 320,I 275 0,I 0 0,.ref 327,I 277 0,I 0 0,.ref 334]))
theorem X1(w:nO)(os:nK):pG w 393 ⟨T6 w.params,280,py,#[],nD,631,os⟩ (piecesOf ((pw.main.body.drop 56).take 6) oU cE ⟨236,0,236,8⟩ B0)=J (.next,⟨T7 w.params,336,py,#[],nD,720,os⟩,cE,⟨277,0,278,44⟩):=()
def ZC(P:nG):List Obj:=fB m5 (em 62) "king_square" 720 279 2 336 ["pos","side"] <|
 fB m6 (em 64) "straight_sliders" 730 282 1 343 ["pos"] <|
 fB m6 (em 65) "slanting_sliders" 737 284 1 350 ["pos"] <|
 fB m6 (em 66) "pawn_attackers" 744 286 3 357 ["pos","square","side"] <|
 fB m6 (em 67) "step_attackers" 753 288 3 364 ["pos","square","side","geo","near"] <|
 fB m6 (em 68) "line_attackers" 764 293 3 371 ["pos","square","occupied","hits","straight","slanting"] <|
 fB m6 (em 69) "attackers_to" 776 302 3 378 ["pos","square","occupied","steps"] <|
 fB m6 (em 70) "is_attacked" 786 305 4 385 ["pos","square","side","occupied","geo","own","straight","slanting"] <|
 fB m6 (em 71) "checkers_of" 800 315 2 392 ["pos","side","everything"] <|
 fB m6 (em 72) "checkers" 809 318 1 399 ["pos"] <|
 fB m6 (em 73) "in_check_of" 816 320 2 406 ["pos","side","everything"] <|
 fB m6 (em 74) "in_check" 825 323 1 413 ["pos"] <|
 []
def Wa(P:nG):List nM:=xY [(0,S "chess.attacks" 728)] (VE P)++eR P [("king_square",727,342),("straight_sliders",736,349),("slanting_sliders",743,356),("pawn_attackers",752,363),("step_attackers",763,370),("line_attackers",775,377),("attackers_to",785,384),("is_attacked",799,391),("checkers_of",808,398),("checkers",815,405),("in_check_of",824,412),("in_check",831,419)]
def T8(P:nG):BT:=(((wS (T7 P) 336 (ZC P)).set 3 (λw=>zd (Wa P) 76)).set 12 (tZ (Q7 341 [279,282,284,286,288,293,302,305,315,318,320,323])))
theorem X7(w:nO)(os:nK):pG w 384 ⟨T7 w.params,336,py,#[],nD,720,os⟩ (piecesOf ((pw.main.body.drop 62).take 13) oU cE ⟨277,0,278,44⟩ B0)=J (.next,⟨T8 w.params,420,py,#[],nD,832,os⟩,cE,⟨323,0,324,37⟩):=()
def aad(P:nG):List Obj:=fB m6 (em 75) "snipers_of" 832 325 2 420 ["pos","side","king","hits"] <|
 fB m6 (em 76) "blockers" 842 330 2 427 ["pos","side","king","snipers","standing","held","pinners","sniper","inside"] <|
 fB m6 (em 77) "pinned_pieces" 857 343 2 434 ["pos","side"] <|
 fB m7 (em 86) "squares_within" 881 353 2 441 ["a","b"] <|
 fB m7 (em 87) "castle_refusal" 889 357 2 448 ["pos","index","wing","king_from","king_to","rook_from","rook_to","whole","enemy"] <|
 fB m7 (em 88) "add_castling" 904 375 2 455 ["pos","out","index","king_from","king_to","rook_from","rook_to"] <|
 fB m8 (em 93) "add_goals" 925 384 3 462 ["origin","goals","out","goal"] <|
 fB m8 (em 94) "add_piece_moves" 935 387 4 469 ["pos","kind","target","out","whole","origin","reach"] <|
 []
def VF(P:nG):List nM:=xY [(0,S "chess.piecemoves" 917)] (Wa P)++eR P [("snipers_of",841,426),("blockers",856,433),("pinned_pieces",864,440)]++[E P "MAY" 868 (I 0 867),E P "NO_WING" 870 (I 1 869),E P "RIGHT_LOST" 872 (I 2 871),E P "NOT_FREE" 874 (I 3 873),E P "IN_CHECK" 876 (I 4 875),E P "PASSES_ATTACK" 878 (I 5 877),E P "GOAL_ATTACKED" 880 (I 6 879)]++eR P [("squares_within",888,447),("castle_refusal",903,454),("add_castling",916,461)]++[E P "CAPTURES" 920 (I 0 919),E P "QUIETS" 922 (I 1 921),E P "EVASIONS" 924 (I 3 923),E P "add_goals" 934 (.ref 468),E P "add_piece_moves" 947 (.ref 475)]
def T9(P:nG):BT:=(((wS (T8 P) 420 (aad P)).set 3 (λw=>zd (VF P) 94)).set 12 (tZ (Q7 425 [325,330,343,353,357,375,384,387])))
theorem XI(w:nO)(os:nK):pG w 377 ⟨T8 w.params,420,py,#[],nD,832,os⟩ (piecesOf ((pw.main.body.drop 75).take 20) oU cE ⟨323,0,324,37⟩ B0)=J (.next,⟨T9 w.params,476,py,#[],nD,948,os⟩,cE,⟨387,0,391,46⟩):=()
def XV(P:nG):List Obj:=fB m8 (em 95) "stage_target" 948 392 2 476 ["pos","stage"] <|
 fB m9 (em 97) "push_step" 958 399 2 483 ["geo","side"] <|
 fB m9 (em 98) "start_mask" 966 403 2 490 ["geo","side"] <|
 fB m9 (em 99) "last_mask" 974 407 2 497 ["geo","side"] <|
 fB m9 (em 100) "shift_push" 982 411 3 504 ["geo","b","side"] <|
 fB m9 (em 101) "shift_capture" 991 415 4 511 ["geo","b","side","wing"] <|
 fB m9 (em 102) "push_targets" 1001 419 2 518 ["pos","side","geo","empty","pawns","ones","twos","passed"] <|
 fB m9 (em 103) "add_promotions" 1015 429 5 525 ["origin","to","stage","is_capture","out","with_lesser","kind"] <|
 fB m9 (em 104) "add_plain_pushes" 1028 441 3 532 ["pos","target","out","geo","step","ones","twos","goal"] <|
 fB m9 (em 105) "add_push_promotions" 1042 449 4 539 ["pos","stage","target","out","geo","step","ones","goal"] <|
 fB m9 (em 106) "add_pawn_captures" 1056 455 4 546 ["pos","stage","target","out","geo","side","last","pawns","hits","wing","step","goal"] <|
 []
def R3(P:nG):List nM:=xY [(0,S "chess.pawnmoves" 956)] (VF P)++eR P [("stage_target",955,482),("push_step",965,489),("start_mask",973,496),("last_mask",981,503),("shift_push",990,510),("shift_capture",1000,517),("push_targets",1014,524),("add_promotions",1027,531),("add_plain_pushes",1041,538),("add_push_promotions",1055,545),("add_pawn_captures",1073,552)]
def T10(P:nG):BT:=(((wS (T9 P) 476 (XV P)).set 3 (λw=>zd (R3 P) 105)).set 12 (tZ (Q7 481 [392,399,403,407,411,415,419,429,441,449,455])))
theorem UQ(w:nO)(os:nK):pG w 376 ⟨T9 w.params,476,py,#[],nD,948,os⟩ (piecesOf ((pw.main.body.drop 95).take 12) oU cE ⟨387,0,391,46⟩ B0)=J (.next,⟨T10 w.params,553,py,#[],nD,1074,os⟩,cE,⟨455,0,467,73⟩):=()
def X4(P:nG):List Obj:=fB m9 (em 107) "add_pawn_moves" 1074 468 4 553 ["pos","stage","target","out"] <|
 fB m9 (em 108) "add_en_passant" 1084 474 2 560 ["pos","out","origins","origin"] <|
 fB Pz (em 110) "evasion_targets" 1096 481 2 567 ["pos","given"] <|
 fB Pz (em 111) "passed_pawn_square" 1104 485 1 574 ["pos"] <|
 fB Pz (em 112) "may_answer_en_passant" 1111 489 2 581 ["pos","target"] <|
 fB Pz (em 113) "add_evasions" 1119 493 2 588 ["pos","out","target","kind"] <|
 fB VJ (em 115) "taken_square" 1131 503 2 595 ["pos","move","goal"] <|
 fB VJ (em 117) "is_safe_en_passant" 1141 511 2 602 ["pos","move","taken","goal","everything","behind","hits"] <|
 fB VJ (em 118) "is_legal" 1154 518 3 609 ["pos","move","pinned","special","origin","goal","king","lifted"] <|
 fB XM (em 120) "generate" 1170 534 2 616 ["pos","stage","out","target","kind"] <|
 fB XM (em 121) "has_legal_move" 1181 548 1 623 ["pos","stages","pinned","stage","move"] <|
 []
def Sl(P:nG):List nM:=xY [(0,S "chess.draws" 1192)] (R3 P)++eR P [("add_pawn_moves",1083,559),("add_en_passant",1093,566),("evasion_targets",1103,573),("passed_pawn_square",1110,580),("may_answer_en_passant",1118,587),("add_evasions",1128,594),("taken_square",1139,601),("taken_square_legality",1140,601),("is_safe_en_passant",1153,608),("is_legal",1167,615),("generate",1180,622),("has_legal_move",1191,629)]
def T11(P:nG):BT:=(((wS (T10 P) 553 (X4 P)).set 3 (λw=>zd (Sl P) 117)).set 12 (tZ (Q7 558 [468,474,481,485,489,493,503,511,518,534,548])))
theorem UV(w:nO)(os:nK):pG w 400 ⟨T10 w.params,553,py,#[],nD,1074,os⟩ (piecesOf ((pw.main.body.drop 107).take 16) oU cE ⟨455,0,467,73⟩ B0)=J (.next,⟨T11 w.params,630,py,#[],nD,1194,os⟩,cE,⟨556,0,556,8⟩):=()
def Xo(P:nG):List Obj:=fB ua (em 130) "reversible_plies" 1208 564 1 630 ["pos"] <|
 fB ua (em 131) "key_before" 1215 568 2 637 ["pos","plies"] <|
 fB ua (em 132) "repetitions" 1223 572 1 644 ["pos","found","plies"] <|
 fB ua (em 133) "is_repetition" 1232 578 2 651 ["pos","times"] <|
 fB ua (em 134) "repetition_distance" 1240 580 1 658 ["pos","first","plies"] <|
 fB ua (em 135) "has_repeated" 1249 588 1 665 ["pos","end","near","far"] <|
 fB ua (em 136) "is_checkmate" 1259 595 1 672 ["pos"] <|
 fB ua (em 137) "is_stalemate" 1266 597 1 679 ["pos"] <|
 fB ua (em 138) "is_fifty" 1273 599 1 686 ["pos"] <|
 fB ua (em 139) "square_colour" 1280 601 2 693 ["geo","square"] <|
 fB ua (em 140) "bishops_on_one_colour" 1288 603 1 700 ["pos","seen","square"] <|
 []
def SY(P:nG):List nM:=xY [] (Sl P)++[E P "ONGOING" 1195 (I 0 1194),E P "CHECKMATE" 1197 (I 1 1196),E P "STALEMATE" 1199 (I 2 1198),E P "FIFTY" 1201 (I 3 1200),E P "REPETITION" 1203 (I 4 1202),E P "MATERIAL" 1205 (I 5 1204),E P "FIFTY_PLIES" 1207 (I 100 1206)]++eR P [("reversible_plies",1214,636),("key_before",1222,643),("repetitions",1231,650),("is_repetition",1239,657),("repetition_distance",1248,664),("has_repeated",1258,671),("is_checkmate",1265,678),("is_stalemate",1272,685),("is_fifty",1279,692),("square_colour",1287,699),("bishops_on_one_colour",1296,706)]
def T12(P:nG):BT:=(((wS (T11 P) 630 (Xo P)).set 3 (λw=>zd (SY P) 135)).set 12 (tZ (Q7 635 [564,568,572,578,580,588,595,597,599,601,603])))
theorem U5(w:nO)(os:nK):pG w 395 ⟨T11 w.params,630,py,#[],nD,1194,os⟩ (piecesOf ((pw.main.body.drop 123).take 18) oU cE ⟨556,0,556,8⟩ B0)=J (.next,⟨T12 w.params,707,py,#[],nD,1297,os⟩,cE,⟨603,0,607,20⟩):=()
def Wp(P:nG):List Obj:=fB ua (em 141) "is_insufficient" 1297 608 1 707 ["pos","kinds"] <|
 fB ua (em 142) "is_draw_by_rule" 1305 615 1 714 ["pos"] <|
 fB ua (em 143) "is_draw_in_search" 1312 617 2 721 ["pos","ply","distance"] <|
 fB ua (em 144) "outcome" 1321 622 1 728 ["pos"] <|
 fB ua (em 145) "result_text" 1328 634 1 735 ["pos","state"] <|
 fB zc (em 147) "moved_piece" 1338 644 2 742 ["pos","move","origin","piece"] <|
 fB zc (em 148) "taken_square" 1348 652 2 749 ["pos","move","goal"] <|
 fB zc (em 150) "rook_step" 1358 660 3 756 ["geo","side","goal","index","wing"] <|
 fB zc (em 151) "passed_square" 1369 666 4 763 ["pos","side","origin","goal","files","passed","enemies"] <|
 fB zc (em 152) "kept_rights" 1382 675 3 770 ["pos","origin","goal","lost"] <|
 fB zc (em 153) "clear_ep_key" 1392 678 1 777 ["pos"] <|
 fB zc (em 154) "set_ep_key" 1399 682 2 784 ["pos","square"] <|
 []
def QB(P:nG):List nM:=xY [(0,S "chess.makemove" 1336),(111,.ref 755)] (SY P)++eR P [("is_insufficient",1304,713),("is_draw_by_rule",1311,720),("is_draw_in_search",1320,727),("outcome",1327,734),("result_text",1335,741),("moved_piece",1347,748),("taken_square_makemove",1357,755),("rook_step",1368,762),("passed_square",1381,769),("kept_rights",1391,776),("clear_ep_key",1398,783),("set_ep_key",1406,790)]
def T13(P:nG):BT:=(((wS (T12 P) 707 (Wp P)).set 3 (λw=>zd (QB P) 147)).set 12 (tZ (Q7 712 [608,615,617,622,634,644,652,660,666,675,678,682])))
theorem UM(w:nO)(os:nK):pG w 391 ⟨T12 w.params,707,py,#[],nD,1297,os⟩ (piecesOf ((pw.main.body.drop 141).take 14) oU cE ⟨603,0,607,20⟩ B0)=J (.next,⟨T13 w.params,791,py,#[],nD,1407,os⟩,cE,⟨682,0,685,19⟩):=()
def XK(P:nG):List Obj:=fB zc (em 155) "set_rights_key" 1407 686 2 791 ["pos","rights"] <|
 fB zc (em 156) "do_move" 1415 690 2 798 ["pos","move","piece","side","origin","goal","special","rook","where","taken"] <|
 fB zc (em 157) "undo_move" 1431 722 1 805 ["pos","move","taken","rights","ep","half","key","side","origin","goal","special","rook"] <|
 [qV [],
 wk (.type "builtin_function_or_method") U [.builtin "type.__prepare__",.type "type"] [],
 zd [E P "__module__" 1458 (S "chess.zobrist" 1449),E P "__qualname__" 1460 (S "Zobrist" 1459),E P "__firstlineno__" 1462 (I 748 1461),E P "__init__" 1473 (.ref 825),E P "__static_attributes__" 1478 (.ref 826)] 5,
 qV [],
 wk .none U [I 750 0,I 4 0,.ref 824] [],
 Ay "Zobrist" "Zobrist" 1453 748 0 (I 0 0) (.ref 815) (.bool cj) (I 181 0) (.ref 816) .none .none .none 1456,
 Wt (.type "frame") U [J (.ref 817),J (.ref 3),J (.ref 814),U,J (S "chess.zobrist" 1449),U,J (.ref 0)],
 qV [],
 wk .none U [] [],
 qV [S "self" 1466,S "pieces" 1467,S "ep" 1468,S "rights" 1469,S "side" 1470],
 qV [],
 PI (Ko (em 159) 0) "Zobrist.__init__",
 Ay "__init__" "Zobrist.__init__" 1463 750 5 (I 3 0) (.ref 819) (.bool b9) (I 181 0) (.ref 820) (.ref 821) (.ref 822) (.ref 823) 1471,
 CZ (Ko (em 159) 0) "Zobrist.__init__" (S "chess.zobrist" 1449) (.ref 824),
 qV [S "ep" 1474,S "pieces" 1475,S "rights" 1476,S "side" 1477],
 zd ([E P "__module__" 1458 (S "chess.zobrist" 1449),E P "__firstlineno__" 1462 (I 748 1461)]++eR P [("__init__",1473,825),("__static_attributes__",1478,826),("__dict__",1480,829),("__weakref__",1482,830)]++[E P "__doc__" 1483 .none]) 4,
 U8 (.type "type") U "Zobrist" [.type "object"] [.ref 828,.type "object"] 827 "Zobrist" b9 0 [] cj cj U [U,U,J (S "Zobrist" 1451),J (S "Zobrist" 1459),J (.builtin "object.__new__"),J (.bool b9)],
 wk (.type "getset_descriptor") U [S "__dict__" 1479,.ref 828,.builtin "function.__dict__",.builtin "function.__dict__#set"] [],
 wk (.type "getset_descriptor") U [S "__weakref__" 1481,.ref 828,.builtin "ExceptionGroup.__weakref__",.none] [],
 wk (.type "super") U [.ref 828,.ref 828,.ref 828] [],
 wk (.type "builtin_function_or_method") U [.builtin "object.__init_subclass__",.ref 828] []]
def Sz(P:nG):List nM:=xY [(0,S "law_nt0468_01" 1486)] (QB P)++eR P [("set_rights_key",1414,797),("do_move",1430,804),("undo_move",1448,811),("Zobrist",1485,828)]
def T14(P:nG):BT:=(((wS (T13 P) 791 (XK P)).set 3 (λw=>zd (Sz P) 151)).set 12 (tZ (Q7 796 [686,690,722,748])))
theorem Ts(w:nO)(os:nK):pG w 355 ⟨T13 w.params,791,py,#[],nD,1407,os⟩ (piecesOf ((pw.main.body.drop 155).take 6) oU cE ⟨682,0,685,19⟩ B0)=J (.next,⟨T14 w.params,833,py,#[],nD,1488,os⟩,cE,⟨755,0,755,8⟩):=()
def XJ(P:nG):List Obj:=fD [qV [I 0 1488,I 1 1489],
 qV [I 1 1490,I 0 1491],
 qV [I 0 1492,I (-1) 1494],
 qV [I (-1) 1496,I 0 1497],
 qV [I 1 1498,I 1 1499],
 qV [I 1 1500,I (-1) 1502],
 qV [I (-1) 1504,I (-1) 1506],
 qV [I (-1) 1508,I 1 1509],
 lsO [.ref 833,.ref 834,.ref 835,.ref 836,.ref 837,.ref 838,.ref 839,.ref 840] 0,
 qV [I 1 1511,I 2 1512],
 qV [I 2 1513,I 1 1514],
 qV [I 2 1515,I (-1) 1517],
 qV [I 1 1518,I (-2) 1520],
 qV [I (-1) 1522,I (-2) 1524],
 qV [I (-2) 1526,I (-1) 1528],
 qV [I (-2) 1530,I 1 1531],
 qV [I (-1) 1533,I 2 1534],
 lsO [.ref 842,.ref 843,.ref 844,.ref 845,.ref 846,.ref 847,.ref 848,.ref 849] 0] <|
 fB M2 (em 163) "_law_hits" 1536 758 4 851 ["files","ranks","cells","start","kind","ways","up","found","over","file","rank"] <|
 fB M2 (em 164) "_law_safe" 1553 781 5 858 ["files","ranks","cells","goal","side","start"] <|
 fD [qV [],
 wk .none U [] [],
 PI (em 165) "_law_goals",
 Ay "_law_goals" "_law_goals" 1565 786 4 (I 3 0) (.ref 865) (.bool b9) (I 181 0) (.ref 866) .none .none (.ref 867) 1568,
 CZ (em 165) "_law_goals" (S "law_nt0468_01" 1486) (.ref 868)] <|
 fB M2 (em 166) "_law_fits" 1571 796 5 870 ["files","ranks","cells","start","to","side","after"] <|
 fD [qV [],
 wk .none U [] [],
 PI (em 167) "_law_pick",
 Ay "_law_pick" "_law_pick" 1584 802 5 (I 3 0) (.ref 877) (.bool b9) (I 181 0) (.ref 878) .none .none (.ref 879) 1587,
 CZ (em 167) "_law_pick" (S "law_nt0468_01" 1486) (.ref 880)] <|
 fB M2 (em 168) "_law_back" 1590 812 5 882 ["files","ranks","cells","side","way"] <|
 fB M2 (em 169) "_law_kept" 1601 816 4 889 ["files","ranks","cells","rights","kept","i","home","corner"] <|
 []
def Qa(P:nG):List nM:=xY [] (Sz P)++eR P [("_law_kings",1510,841),("_law_jumps",1535,850),("_law_hits",1552,857),("_law_safe",1564,864),("_law_goals",1570,869),("_law_fits",1583,876),("_law_pick",1589,881),("_law_back",1600,888),("_law_kept",1614,895)]
def T15(P:nG):BT:=(((wS (T14 P) 833 (XJ P)).set 3 (λw=>zd (Qa P) 160)).set 12 (tZ [I 758 0,I 0 0,.ref 856,I 781 0,I 0 0,.ref 863,I 786 0,I 0 0,.ref 868,I 796 0,I 0 0,.ref 875,I 802 0,I 0 0,.ref 880,I 812 0,I 0 0,.ref 887,I 816 0,I 0 0,.ref 894]))
theorem Uu(w:nO)(os:nK):pG w 384 ⟨T14 w.params,833,py,#[],nD,1488,os⟩ (piecesOf ((pw.main.body.drop 161).take 9) oU cE ⟨755,0,755,8⟩ B0)=J (.next,⟨T15 w.params,896,py,#[],nD,1615,os⟩,cE,⟨816,0,823,15⟩):=()
def WA(P:nG):List Obj:=fD [qV [],
 wk .none U [] [],
 PI (em 170) "_law_bare",
 Ay "_law_bare" "_law_bare" 1615 824 2 (I 3 0) (.ref 896) (.bool b9) (I 181 0) (.ref 897) .none .none (.ref 898) 1618,
 CZ (em 170) "_law_bare" (S "law_nt0468_01" 1486) (.ref 899),
 qV [],
 wk .none U [] [],
 PI (em 171) "_law_agrees",
 Ay "_law_agrees" "_law_agrees" 1621 829 7 (I 3 0) (.ref 901) (.bool b9) (I 181 0) (.ref 902) .none .none (.ref 903) 1624,
 CZ (em 171) "_law_agrees" (S "law_nt0468_01" 1486) (.ref 904)] <|
 fB M2 (em 172) "_law_cells" 1627 862 5 906 ["files","ranks","side","rights","numbers","size","cells","i","white","k","s","n","kind"] <|
 [qV [],
 wk .none U [] [],
 PI (em 173) "_law_position",
 Ay "_law_position" "_law_position" 1646 886 6 (I 3 0) (.ref 913) (.bool b9) (I 181 0) (.ref 914) .none .none (.ref 915) 1649,
 CZ (em 173) "_law_position" (S "law_nt0468_01" 1486) (.ref 916),
 qV [],
 wk .none U [] [],
 PI (em 174) "law",
 Ay "law" "law" 1652 904 1 (I 3 0) (.ref 918) (.bool b9) (I 181 0) (.ref 919) .none .none (.ref 920) 1655,
 CZ (em 174) "law" (S "law_nt0468_01" 1486) (.ref 921)]
def H9(P:nG):List nM:=xY [] (Qa P)++eR P [("_law_bare",1620,900),("_law_agrees",1626,905),("_law_cells",1645,912),("_law_position",1651,917),("law",1657,922)]
def Yy(P:nG):BT:=(((wS (T15 P) 896 (WA P)).set 3 (λw=>zd (H9 P) 165)).set 12 (tZ [I 824 0,I 0 0,.ref 899,I 829 0,I 0 0,.ref 904,I 862 0,I 0 0,.ref 911,I 886 0,I 0 0,.ref 916,I 904 0,I 0 0,.ref 921]))
theorem Vf(w:nO)(os:nK):pG w 146 ⟨T15 w.params,896,py,#[],nD,1615,os⟩ (piecesOf ((pw.main.body.drop 170).take 5) oU cE ⟨816,0,823,15⟩ B0)=J (.next,⟨Yy w.params,923,py,#[],nD,1658,os⟩,cE,⟨904,0,954,90⟩):=()
abbrev Dw:Option nr:=J (.ref 6)
abbrev H0(P:nG):Heap:=boot_heap P
abbrev HE(P:nG):Heap:=absHeap (Yy P) 923 py
theorem abr(w:nO)(os:nK):PySem.W.Fast.tw15667345088766844465 fV pw w 11 Dw 12 ⟨H0 w.params,#[],nD,181,os⟩ (topStub pw)=
  J (⟨absHeap (T0 w.params) 15 py,#[],nD,187,os⟩,⟨PySem.W.Fast.tw11892475500146522536 fV cE,cE,⟨0,0,0,0⟩,B0⟩):=()
theorem aa8(w:nO)(os:nK):topGo treeTable pw w 11 Dw 12 ⟨H0 w.params,#[],nD,181,os⟩ (topStub pw)=
  J (⟨absHeap (T0 w.params) 15 py,#[],nD,187,os⟩,⟨denote treeTable cE,cE,⟨0,0,0,0⟩,B0⟩):=by
 have h:=abr w os;rw[<- PySem.W.Fast.te15667345088766844465,<-ir,<-PySem.W.Fast.te11892475500146522536] at h;exact h
theorem XH(w:nO)(s:nB):segRun treeTable pw w 11 Dw 1 1 s (blockOf (behindTheImports pw) oU cE ⟨0,0,0,0⟩ B0)=J (.next,s,cE,⟨0,0,0,0⟩):=()
theorem aaL(w:nO)(s:nB)(p:Pos):topRun treeTable pw w 11 Dw 2 s (restOf (pw.main.body.drop 175) oU cE p B0)=J s:=()
theorem aaJ(h:pG w N s t=r):segRunT treeTable pw w 11 Dw 1 N s t=r:=by
 unfold pG at h;rw[<- PySem.W.Fast.te10110043849684766642,<-ir] at h;exact h
theorem rJ(h:pG w N s (piecesOf ((pw.main.body.drop i).take k) oU cE p B0)=J (.next,s',cE,p'))(hj:i+k=j)
  (x:topRun treeTable pw w 11 Dw M s'.abs (restOf (pw.main.body.drop j) oU cE p' B0)=J r):topRun treeTable pw w 11 Dw (N+M) s.abs (restOf (pw.main.body.drop i) oU cE p B0)=J r:=by
 subst hj;have y:=piece_app (segRun_of (aaJ h)) x;rw[<- List.drop_drop,gV] at y;exact y
theorem Zt:behindTheImports pw=pw.main.body.drop 0:=()
theorem abo(x:topRun treeTable pw w 11 Dw N s (restOf (pw.main.body.drop 0) oU cE p B0)=J r):topRun treeTable pw w 11 Dw N s (restOf (behindTheImports pw) oU cE p B0)=J r:=by
 rw[Zt];exact x
def c16(w:nO)(os:nK):=rJ (Vf w os) (show 170+5=175 from rfl) (aaL w _ _)
def c15(w:nO)(os:nK):=rJ (Uu w os) (show 161+9=170 from rfl) (c16 w os)
def c14(w:nO)(os:nK):=rJ (Ts w os) (show 155+6=161 from rfl) (c15 w os)
def c13(w:nO)(os:nK):=rJ (UM w os) (show 141+14=155 from rfl) (c14 w os)
def c12(w:nO)(os:nK):=rJ (U5 w os) (show 123+18=141 from rfl) (c13 w os)
def c11(w:nO)(os:nK):=rJ (UV w os) (show 107+16=123 from rfl) (c12 w os)
def c10(w:nO)(os:nK):=rJ (UQ w os) (show 95+12=107 from rfl) (c11 w os)
def c9(w:nO)(os:nK):=rJ (XI w os) (show 75+20=95 from rfl) (c10 w os)
def c8(w:nO)(os:nK):=rJ (X7 w os) (show 62+13=75 from rfl) (c9 w os)
def c7(w:nO)(os:nK):=rJ (X1 w os) (show 56+6=62 from rfl) (c8 w os)
def c6(w:nO)(os:nK):=rJ (Wv w os) (show 45+11=56 from rfl) (c7 w os)
def c5(w:nO)(os:nK):=rJ (XR w os) (show 39+6=45 from rfl) (c6 w os)
def c4(w:nO)(os:nK):=rJ (Wz w os) (show 35+4=39 from rfl) (c5 w os)
def c3(w:nO)(os:nK):=rJ (WW w os) (show 34+1=35 from rfl) (c4 w os)
def c2(w:nO)(os:nK):=rJ (WI w os) (show 24+10=34 from rfl) (c3 w os)
def c1(w:nO)(os:nK):=rJ (W7 w os) (show 0+24=24 from rfl) (c2 w os)
def aa0(w:nO)(os:nK):=go_top (aa8 w os) (piece_block (XH w _) (abo (c1 w os)))
abbrev qw:nN:={pw with main:={pw.main with body:=[em 174]}}
abbrev Jx:Str:=bb "law"
def XG:List Str:=pw.boundNames
def vd:List Str:=XG.filter λn=> !(n == Jx)
def fdR(s:Stmt):DefRec:=if h:s.ctorIdx=0 then kA s h (λname args body w w w scope w w pos=>⟨name,args,body,scope,pos⟩) else⟨Jx,default,[],default,default⟩
def Fu:DefRec:=fdR (em 174)
def YfM(s:nB):Heap:=s.heap
def YaM(w:nO):Heap:=HE w.params
def U2(w:nO)(h:Heap):Prop:=∀a o,a<923->(Yy w.params).get a=J o->alive o=J o->h.get? a=J o
theorem Y9:∀w:nO,(fencedOpening treeTable pw w 6000).map (λs=>(s.heap,s.gens,s.drawn,s.toks))=J (H0 w.params,#[],nD,181):=
 boot_open () (by rfl) (λs=>by kernel_rfl)
theorem Zz:∀w:nO,((H0 w.params).isNs mainGlobals&&(#[]:Array GenState).size == 0,(H0 w.params).objs.size,(H0 w.params).nsMap mainGlobals "__annotations__")=(b9,11,Dw):=by
 intro w;kernel_rfl
theorem ZR:importedModules pw.main.body=[]:=()
theorem l1(w:nO):staticsOk [] (H0 w.params) (HE w.params)=b9:=()
theorem l4(w:nO):laidKept (H0 w.params) (HE w.params)=b9:=()
theorem l3(w:nO)(os:nK):gensDone ⟨HE w.params,#[],nD,1658,os⟩=b9:=()
theorem l2(w:nO):namesBound pw (HE w.params)=b9:=()
theorem ZP(w:nO)(os:nK):PySem.W.Fast.tw4187177175401517315 qw vd [] (recOk []) b9 ⟨HE w.params,#[],nD,1658,os⟩=openGood qw vd:=()
theorem ZI(w:nO)(os:nK):openSeen qw vd [] (recOk []) b9 ⟨HE w.params,#[],nD,1658,os⟩=openGood qw vd:=by
 rw[PySem.W.Fast.te4187177175401517315];exact ZP w os
theorem X6(w:nO):(λos=>((staticsOk (importedModules pw.main.body) (H0 w.params) (HE w.params)&&namesBound pw (HE w.params)&&gensDone ⟨HE w.params,#[],nD,1658,os⟩&&laidKept (H0 w.params) (HE w.params)),
    openSeen qw vd (importedModules pw.main.body) (recOk []) b9 ⟨HE w.params,#[],nD,1658,os⟩,YfM ⟨HE w.params,#[],nD,1658,os⟩))=λz=>(b9,openGood qw vd,YaM w):=by
 funext os;rw[ZR,l1,l2,l3,l4,ZI];rfl
theorem abn(w:nO)(os:nK):topRun treeTable pw w 11 Dw (12+(1+(382+(267+(229+(289+(398+(323+(393+(384+(377+(376+(400+(395+(391+(355+(384+(146+2)))))))))))))))))) ⟨H0 w.params,#[],nD,181,os⟩ (topStub pw)=J ⟨HE w.params,#[],nD,1658,os⟩:=by
 have h:=aa0 w os;exact Eq.mp () h
theorem Zr:LeftO pw qw vd (recOk []) YfM YaM 6000 b9:=
 LeftO.of_pieces (H₀:=H0) (H₁:=HE) Y9 Zz abn () X6
theorem yp0(w:nO)(s:nB)(e:YfM s=YaM w):U2 w s.heap:=by
 intro a o h g al;have:s.heap=HE w.params:=e;rw[this];exact(abs_get h g).trans al
theorem ypk(w:nO)(h h':Heap)(y:U2 w h)(k:∀b o,h.get? b=J o->h'.get? b=J o):U2 w h':=λa o x g al=>k _ _ (y a o x g al)
theorem Zw:defOf qw Jx=J (Fu,[]):=()
theorem hp0:pw.theDef Jx=J (Fu.params,Fu.body,Fu.scope):=()
theorem hk0:kwWritten? Fu.params.kwonlyargs Fu.params.kw_defaults=J []:=()
theorem abg:dh.row.toRowW.promised:=by w_witness2
theorem VT(call:WalkO qw vd (λw w=>True) U2 dh.row.toRowW Fu [] λf vs=>PySem.call f vs):dh.Holds:=
 holds_law MineH.Lake.said λk1=>PySem.W.holds_open (r:=dh.row) (q:=qw) (loose:=vd) (Xt:=recOk []) (XP:=λw w=>True) (Yf:=YfM) (Ya:=YaM) (YP:=U2) (d:=Fu) (kwd:=[]) (N:=6000)
  Zr yp0 ypk (λw w=>trivial) (λw w w w w=>trivial) Zw hp0 hk0 (λs e=>recFacts_of e) (by rfl) k1 (by decide +kernel) ⟨rfl,rfl,rfl,rfl,rfl,by decide +kernel⟩ abg call
end
end MineH.Lake
end
namespace Mine.Lake
noncomputable section
section
open PySem
set_option genCtorIdx true in
inductive V where
 | none | bool (b:Bool) | int (i:Int) | str (s:Str) | ref (h:Nat) | con (a:Nat)
set_option genCtorIdx true in
inductive O where
 | list (xs:List V) | tup (xs:List V) | inst (c:Nat) (fs:List (Nat × V)) | aT (a b s:Int)
set_option genInjectivity false
mutual
inductive Fk where
 | add | sub | mul | div | mod | shl | shr | band | bor | bxor
inductive Kp where
 | eq | ne | lt | le | gt | ge | is | isnot | isin | b7
end
mutual
inductive E where
 | bK | bool (b:Bool) | int (i:Int) | str (s:Str) | loc (i:Nat) | glo (i:Nat) (v:V)
 | and (a b:E) | or (a b:E) | not (a:E) | neg (a:E) | inv (a:E)
 | bin (o:Fk) (a b:E) | ite (c a b:E)
 | cmp (a:E) (o:Kp) (b:E) | bU (a:E) (o:Kp) (b:E) (p:Kp) (c:E)
 | list (es:Es) | tup (es:Es) | rep (es:Es) (n:E)
 | comp (elt:E) (i:Nat) (iter:E) (test:E)
 | call (i f:Nat) (es:Es)
 | len (i:Nat) (a:E) | abs (i:Nat) (a:E) | range (i:Nat) (es:Es)
 | index (a x:E) | append (a x:E) | pop (a:E)
 | attr (a:E) (n:Nat) | sub (a i:E) | slice (a:E) (lo hi:E)
inductive Es where
 | nil | cons (e:E) (es:Es)
end
set_option genCtorIdx true in
gen_injective_theorems% E
set_option genCtorIdx true in
inductive af where
 | loc (i:Nat) | tup (is:List Nat) | attr (a:E) (n:Nat) | sub (a i:E)
mutual
inductive S where
 | assign (t:af) (e:E) | aug (t:af) (o:Fk) (e:E) | expr (e:E) | ret (e:E)
 | ite (c:E) (a b:Ss) | loop (c:E) (b:Ss) | each (t:af) (it:E) (b:Ss) | brk | fail
inductive Ss where
 | nil | cons (s:S) (r:Ss)
end
set_option genInjectivity true
abbrev H:=List O
abbrev nw:=List (Option V)
abbrev Rz(α:Type):=Option (α × H)
inductive Fl where
 | next | brk | ret (v:V)
structure pN where
 con:Nat->Option O
 call:Nat->List V->H->(V->H->Prop)->Prop
section
variable(K:pN)
def tS(h:H):V->Option O
 | .ref a=>h[a]?
 | .con a=>K.con a
 | _=>.none
def pQ(h:H)(v:V):Option (List V):=match tS K h v with
 | some (.list xs)=>J xs
 | some (.tup xs)=>J xs
 | _=>.none
def pI(a b s:Int):Nat:=if s == 1 then(b - a).toNat else if s == 2 then((b - a+1)/2).toNat else(a - b).toNat
def yP(a:Int):Bool:=cu (-1000000<a)&&cu (a<1000000)
inductive It where
 | list | tup | aT (a b s:Int)
def Fm(h:H)(v:V):Option It:=match tS K h v with
 | some (.list _)=>J .list
 | some (.tup _)=>J .tup
 | some (.aT a b s)=>if yP a&&yP b&&(s == 1||s == 2||s == -1) then J (.aT a b s) else .none
 | _=>.none
def oG(k:It)(h:H)(v:V)(j:Nat):Option (Option V):=match k with
 | .list=>(match tS K h v with | some (.list xs)=>J xs[j]? | _=>.none)
 | .tup=>(match tS K h v with | some (.tup xs)=>J xs[j]? | _=>.none)
 | .aT a b s=>J (if j<pI a b s then J (.int (a+j*s)) else .none)
def small(a:Int):Bool:=cu (-18446744073709551616<a)&&cu (a<18446744073709551616)
def TA(o:Fk)(r q:Option O)(F:List V->List V->V × H):Rz V:=match o,r,q with
 | .add,J (.list xs),J (.list ys)=>if xs.length+ys.length<=1000 then J (F xs ys) else .none
 | _,_,_=>.none
def pD(o:Fk)(x y:V)(h:H):Rz V:=match x,y with
 | .int a,.int b=>match o with
  | .add=>J (.int (a+b),h)
  | .sub=>J (.int (a - b),h)
  | .mul=>if small a&&small b then J (.int (a*b),h) else .none
  | .div=>if 0<b&&b<1000000 then J (.int (fH a b),h) else .none
  | .mod=>if 0<b then J (.int (fg a b),h) else .none
  | .shl=>if 0<=b&&b<=1000000&&small a then J (.int (a*2 ^ b.toNat),h) else .none
  | .shr=>if 0<=b then J (.int (fH a (2 ^ b.toNat)),h) else .none
  | .band=>J (.int (fY a b),h)
  | .bor=>J (.int (lq a b),h)
  | .bxor=>J (.int (mW a b),h)
 | .ref a,.ref b=>TA o h[a]? h[b]? λxs ys=>(.ref h.length,h++[.list (xs++ys)])
 | _,_=>.none
def qA(f:V->V->Option Bool):List V->List V->Option Bool
 | x::xs,y::ys=>match f x y,qA f xs ys with
  | some a,J b=>J (a&&b)
  | _,_=>.none
 | _,_=>J b9
def vf:Nat->H->V->V->Option Bool
 | 0,_,_,_=>.none
 | n+1,h,x,y=>match x,y with
  | .int a,.int b=>J (a == b)
  | .bool a,.bool b=>J (a == b)
  | .str a,.str b=>J (a == b)
  | .ref a,.ref b=>match h[a]?,h[b]? with
   | some (.list xs),J (.list ys)=>if xs.length == ys.length then qA (vf n h) xs ys else J cj
   | some (.tup xs),J (.tup ys)=>match qA (vf n h) xs ys with
    | some c=>J (c&&xs.length == ys.length)
    | .none=>.none
   | _,_=>.none
  | _,_=>.none
def tr:V->Option Bool
 | .bool b=>J b
 | .int i=>J (i != 0)
 | .none=>J cj
 | _=>.none
def Aa(h:H)(x:V):List V->Option Bool
 | []=>J cj
 | y::ys=>match vf 4 h y x,Aa h x ys with
  | some a,J b=>J (a||b)
  | _,_=>.none
def Yr(x y:V)(f:Int->Int->Bool):Option Bool:=match x,y with | .int a,.int b=>J (f a b) | _,_=>.none
def neV(x y:V):Option Bool:=match x,y with | .int a,.int b=>J (a != b) | .bool a,.bool b=>J (a != b) | .str a,.str b=>J (a != b) | _,_=>.none
def OG:V->Bool
 | .none=>b9
 | _=>cj
def th(o:Kp)(x y:V)(h:H):Option Bool:=match o with
 | .eq=>vf 4 h x y
 | .ne=>neV x y
 | .lt=>Yr x y λa b=>cu (a<b)
 | .le=>Yr x y λa b=>cu (a<=b)
 | .gt=>Yr x y λa b=>cu (b<a)
 | .ge=>Yr x y λa b=>cu (b<=a)
 | .is=>if OG y then J (OG x) else .none
 | .isnot=>if OG y then J (!OG x) else .none
 | .isin=>(pQ K h y).bind λys=>Aa h x ys
 | .b7=>(pQ K h y).bind λys=>(Aa h x ys).map (!·)
def SA{β:Type}(x:V)(F:Nat->Option β):Option β:=match x with | .ref a=>F a | _=>.none
def YA{β:Type}(x:V)(F:Int->Option β):Option β:=match x with | .int a=>F a | _=>.none
def Ye{β:Type}(r:Option O)(F:List V->Option β):Option β:=match r with | some (.list xs)=>F xs | _=>.none
def Zx{β:Type}(r:Option O)(F:Nat->List (Nat × V)->Option β):Option β:=match r with | some (.inst c fs)=>F c fs | _=>.none
def xf(x y:V)(h:H):Option V:=YA y λi=>(pQ K h x).bind λxs=>if 0<=i/\i<1000000 then xs[i.toNat]? else .none
def w9(x:V)(n:Nat)(h:H):Option V:=SA x λa=>Zx h[a]? λw fs=>fs.lookup n
def ER(n:Nat)(v:V):List (Nat × V)->List (Nat × V)
 | []=>[(n,v)]
 | (m,u)::r=>if m == n then(n,v)::r else(m,u)::ER n v r
def rW(x:V)(n:Nat)(v:V)(h:H):Option H:=SA x λa=>Zx h[a]? λc fs=>if fs.length<100 then J (h.set a (.inst c (ER n v fs))) else .none
def pZ(x y v:V)(h:H):Option H:=SA x λa=>YA y λi=>Ye h[a]? λxs=>if 0<=i/\i<1000000/\i.toNat<xs.length then J (h.set a (.list (xs.set i.toNat v))) else .none
def Cf(o:Fk)(x y:V)(h:H):Rz V:=match x,y with
 | .ref a,.ref b=>TA o h[a]? h[b]? λxs ys=>(.ref a,h.set a (.list (xs++ys)))
 | x,y=>pD o x y h
def wY(v:V)(d:Nat):Option Nat:=match v with
 | .none=>J d
 | .int i=>if 0<=i then J i.toNat else .none
 | _=>.none
def xT(x lo hi:V)(h:H):Rz V:=Ye (tS K h x) λxs=>(wY lo 0).bind λa=>(wY hi xs.length).bind λb=>if xs.length<=1000 then J (.ref h.length,h++[.list ((xs.take b).drop a)]) else .none
def IT(x:V)(h:H):Option V:=(pQ K h x).bind λxs=>if xs.length<=1000000 then J (.int xs.length) else .none
def VI:V->Option V
 | .int i=>J (.int (if i<0 then -i else i))
 | _=>.none
def uK:List V->Option (List Int)
 | []=>J []
 | .int y::r=>(uK r).map (y::·)
 | _=>.none
def abl(h:H)(is:List Int):Rz V:=match is with
 | []=>.none
 | a::r=>match r with
  | []=>if yP a then J (.ref h.length,h++[.aT 0 a 1]) else .none
  | b::r=>match r with
   | []=>if yP a&&yP b then J (.ref h.length,h++[.aT a b 1]) else .none
   | s::r=>if r.isEmpty&&(yP a&&yP b&&(s == 1||s == 2||s == -1)) then J (.ref h.length,h++[.aT a b s]) else .none
def te(vs:List V)(h:H):Rz V:=(uK vs).bind (abl h)
def Ao(x y:V)(h:H):Option V:=SA x λa=>YA y λi=>Ye h[a]? λxs=>(uK xs).bind λns=>if i∈ns/\ns.length<=1000 then J (.int (ns.idxOf i:Nat)) else .none
def pu(x y:V)(h:H):Rz V:=SA x λa=>Ye h[a]? λxs=>if xs.length<1000 then J (.none,h.set a (.list (xs++[y]))) else .none
def CV(x:V)(h:H):Rz V:=SA x λa=>Ye h[a]? λxs=>xs.getLast?.bind λv=>if xs.length<=1000 then J (v,h.set a (.list xs.dropLast)) else .none
def TW(h:H):V->Bool
 | .ref i=>(match h[i]? with | some (.list _)=>b9 | _=>cj)
 | _=>cj
def GQ:Option V->H->(V->H->Prop)->Prop
 | some v,h,Q=>Q v h
 | .none,_,_=>False
def tj:Rz V->(V->H->Prop)->Prop
 | some (v,h),Q=>Q v h
 | .none,_=>False
def yo:Option Bool->(Bool->Prop)->Prop
 | some b,Q=>Q b
 | .none,_=>False
def PH:Option H->(H->Prop)->Prop
 | some h,Q=>Q h
 | .none,_=>False
def RB(r:Option V)(p:Prop)(f:V->Prop):Prop:=match r with | some v=>f v | .none=>p
def Ip(r:Option (Option V))(p:Prop)(f:V->Prop):Prop:=match r with | some r=>RB r p f | .none=>False
def V2(v:V)(f:Int->Prop):Prop:=match v with | .int i=>f i | _=>False
def okT(o:Option O)(f:List V->Prop):Prop:=match o with | some (.tup vs)=>f vs | _=>False
def okU(v:V)(p:Prop):Prop:=match v with | .ref _=>False | .con _=>False | _=>p
def YX:Option It->(It->Prop)->Prop
 | some k,Q=>Q k
 | .none,_=>False
def wT(b:Bool)(P Q:Prop):Prop:=(b=b9->P)/\(b=cj->Q)
def xB:Nat->It->V->Nat->Nat->(V->H->(Option V->H->Prop)->Prop)->H->(V->H->Prop)->Prop
 | 0,_,_,_,_,_,_,_=>False
 | n+1,k,x,a,j,f,h,Q=>Ip (oG K k h x j) (Q (.ref a) h) λv=>f v h λu h=>RB u (xB n k x a (j+1) f h Q) λu=>tj (pu (.ref a) u h) λw h=>xB n k x a (j+1) f h Q
mutual
noncomputable def ev:E->nw->H->(V->H->Prop)->Prop
 | .bK,_,h,Q=>Q .none h
 | .bool b,_,h,Q=>Q (.bool b) h
 | .int i,_,h,Q=>Q (.int i) h
 | .str s,_,h,Q=>Q (.str s) h
 | .loc i,e,h,Q=>Ip e[i]? False λv=>Q v h
 | .glo _ v,_,h,Q=>Q v h
 | .and a b,e,h,Q=>ev a e h λx h=>yo (tr x) λt=>wT t (ev b e h Q) (Q x h)
 | .or a b,e,h,Q=>ev a e h λx h=>yo (tr x) λt=>wT t (Q x h) (ev b e h Q)
 | .not a,e,h,Q=>ev a e h λx h=>yo (tr x) λt=>Q (.bool !t) h
 | .neg a,e,h,Q=>ev a e h λx h=>V2 x λi=>Q (.int (-i)) h
 | .inv a,e,h,Q=>ev a e h λx h=>V2 x λi=>Q (.int (dZ i)) h
 | .bin o a b,e,h,Q=>ev a e h λx h=>ev b e h λy h=>tj (pD o x y h) Q
 | .ite c a b,e,h,Q=>ev c e h λx h=>yo (tr x) λt=>wT t (ev a e h Q) (ev b e h Q)
 | .cmp a o b,e,h,Q=>ev a e h λx h=>ev b e h λy h=>yo (th K o x y h) λt=>Q (.bool t) h
 | .bU a o b p c,e,h,Q=>ev a e h λx h=>ev b e h λy h=>yo (th K o x y h) λt=>
   wT t (ev c e h λz h=>yo (th K p y z h) λu=>Q (.bool u) h) (Q (.bool cj) h)
 | .list es,e,h,Q=>Te es e h λvs h=>vs.length<=1000/\Q (.ref h.length) (h++[.list vs])
 | .tup es,e,h,Q=>Te es e h λvs h=>vs.length<=1000/\Q (.ref h.length) (h++[.tup vs])
 | .rep es n,e,h,Q=>Te es e h λvs h=>vs.length<=1000/\ev n e h λk h=>V2 k λk=>0<=k/\k<=1000/\vs.length<=10/\Q (.ref h.length) (h++[.list (cZ k.toNat vs).flatten])
 | .comp elt i iter test,e,h,Q=>ev iter e h λx h=>YX (Fm K h x) λk=>∃n,xB K n k x h.length 0 (λv h P=>
   ev test (e.set i (J v)) h λy h=>yo (tr y) λt=>wT t (ev elt (e.set i (J v)) h λu h=>P (J u) h) (P .none h)) (h++[.list []]) Q
 | .call _ f es,e,h,Q=>Te es e h λvs h=>K.call f vs h Q
 | .len _ a,e,h,Q=>ev a e h λx h=>GQ (IT K x h) h Q
 | .abs _ a,e,h,Q=>ev a e h λx h=>GQ (VI x) h Q
 | .range _ es,e,h,Q=>Te es e h λvs h=>tj (te vs h) Q
 | .index a x,e,h,Q=>ev a e h λu h=>TW h u=b9/\ev x e h λv h=>GQ (Ao u v h) h Q
 | .append a x,e,h,Q=>ev a e h λu h=>TW h u=b9/\ev x e h λv h=>tj (pu u v h) Q
 | .pop a,e,h,Q=>ev a e h λu h=>tj (CV u h) Q
 | .attr a n,e,h,Q=>ev a e h λx h=>GQ (w9 x n h) h Q
 | .sub a i,e,h,Q=>ev a e h λx h=>ev i e h λy h=>GQ (xf K x y h) h Q
 | .slice a lo hi,e,h,Q=>ev a e h λx h=>ev lo e h λl h=>ev hi e h λu h=>tj (xT K x l u h) Q
noncomputable def Te:Es->nw->H->(List V->H->Prop)->Prop
 | .nil,_,h,Q=>Q [] h
 | .cons a es,e,h,Q=>ev a e h λx h=>Te es e h λxs h=>Q (x::xs) h
end
def AG:List Nat->List V->nw->nw
 | i::is,v::vs,e=>AG is vs (e.set i (J v))
 | _,_,e=>e
def tM:af->V->nw->H->(nw->H->Prop)->Prop
 | .loc i,v,e,h,Q=>Q (e.set i (J v)) h
 | .tup is,v,e,h,Q=>okT (tS K h v) λvs=>vs.length=is.length/\Q (AG is vs e) h
 | .attr a n,v,e,h,Q=>ev K a e h λx h=>PH (rW x n v h) λh=>Q e h
 | .sub a i,v,e,h,Q=>ev K a e h λx h=>ev K i e h λy h=>PH (pZ x y v h) λh=>Q e h
def QM:af->Fk->E->nw->H->(nw->H->Prop)->Prop
 | .loc i,o,r,e,h,Q=>Ip e[i]? False λx=>ev K r e h λy h=>tj (Cf o x y h) λv h=>Q (e.set i (J v)) h
 | .attr a n,o,r,e,h,Q=>ev K a e h λp h=>GQ (w9 p n h) h λx h=>ev K r e h λy h=>tj (Cf o x y h) λv h=>PH (rW p n v h) λh=>Q e h
 | .sub a i,o,r,e,h,Q=>ev K a e h λp h=>ev K i e h λq h=>GQ (xf K p q h) h λx h=>ev K r e h λy h=>tj (Cf o x y h) λv h=>
   PH (pZ p q v h) λh=>Q e h
 | .tup _,_,_,_,_,_=>False
abbrev QS:=Fl->nw->H->Prop
def o8(next:nw->H->Prop)(Q:QS):QS
 | .next,e,h=>next e h
 | .brk,e,h=>Q .next e h
 | .ret v,e,h=>Q (.ret v) e h
def Iy:Nat->It->V->Nat->(V->nw->H->QS->Prop)->nw->H->QS->Prop
 | 0,_,_,_,_,_,_,_=>False
 | n+1,k,x,j,f,e,h,Q=>Ip (oG K k h x j) (Q .next e h) λv=>f v e h (o8 (λe h=>Iy n k x (j+1) f e h Q) Q)
def AE:Nat->(nw->H->(Bool->H->Prop)->Prop)->(nw->H->QS->Prop)->nw->H->QS->Prop
 | 0,_,_,_,_,_=>False
 | n+1,c,f,e,h,Q=>c e h λt h=>wT t (f e h (o8 (λe h=>AE n c f e h Q) Q)) (Q .next e h)
def C8(r:nw->H->Prop)(Q:QS):QS
 | .next,e,h=>r e h
 | .brk,e,h=>Q .brk e h
 | .ret v,e,h=>Q (.ret v) e h
def IU:af->It->Bool
 | .tup _,.list=>b9
 | .tup _,_=>cj
 | _,_=>b9
mutual
noncomputable def evS:S->nw->H->QS->Prop
 | .assign t r,e,h,Q=>ev K r e h λv h=>tM K t v e h λe h=>Q .next e h
 | .aug t o r,e,h,Q=>QM K t o r e h λe h=>Q .next e h
 | .expr r,e,h,Q=>ev K r e h λv h=>okU v (Q .next e h)
 | .ret r,e,h,Q=>ev K r e h λv h=>Q (.ret v) e h
 | .ite c a b,e,h,Q=>ev K c e h λx h=>yo (tr x) λt=>wT t (uO a e h Q) (uO b e h Q)
 | .loop c b,e,h,Q=>∃n,AE n (λe h P=>ev K c e h λx h=>yo (tr x) λt=>P t h) (λe h P=>uO b e h P) e h Q
 | .each t it b,e,h,Q=>ev K it e h λx h=>YX (Fm K h x) λk=>IU t k=b9/\∃n,Iy K n k x 0 (λv e h P=>tM K t v e h λe h=>uO b e h P) e h Q
 | .brk,e,h,Q=>Q .brk e h
 | .fail,_,_,_=>False
noncomputable def uO:Ss->nw->H->QS->Prop
 | .nil,e,h,Q=>Q .next e h
 | .cons s r,e,h,Q=>evS s e h (C8 (λe h=>uO r e h Q) Q)
end
end
end
section
open PySem
theorem uN(m:∀v h,Q v h->Q' v h)(x:GQ r h Q):GQ r h Q':=by cases r<;>first | exact x | exact m _ _ x
theorem rR(m:∀v h,Q v h->Q' v h)(x:tj r Q):tj r Q':=by
 match r with
 | .none=>exact x
 | some (v,h)=>exact m _ _ x
theorem p0(m:∀b,Q b->Q' b)(x:yo r Q):yo r Q':=by cases r<;>first | exact x | exact m _ x
theorem Ai(m:∀b,Q b->Q' b)(x:PH r Q):PH r Q':=by cases r<;>first | exact x | exact m _ x
theorem Iu(m:∀b,Q b->Q' b)(x:YX r Q):YX r Q':=by cases r<;>first | exact x | exact m _ x
theorem D4(m:p->p')(n:∀v,f v->f' v)(x:RB r p f):RB r p' f':=by cases r<;>first | exact m x | exact n _ x
theorem zo(m:p->p')(n:∀v,f v->f' v)(x:Ip r p f):Ip r p' f':=by cases r<;>first | exact x | exact D4 m n x
theorem Eh(n:∀v,f v->f' v)(x:V2 v f):V2 v f':=by cases v<;>first | exact n _ x | exact x
theorem Qb(n:∀v,f v->f' v)(x:okT v f):okT v f':=match v,x with | some (.tup _),x=>n _ x
theorem SV(m:p->q)(x:okU v p):okU v q:=by cases v<;>first | exact x | exact m x
theorem Ng(x:Ip r False f):∃v,r=J (J v)/\f v:=match r,x with | some (J v),x=>⟨v,rfl,x⟩
theorem H1(x:V2 v f):∃i,v= .int i/\f i:=match v,x with | .int i,x=>⟨i,rfl,x⟩
theorem MP(x:okT r f):∃vs,r=J (.tup vs)/\f vs:=match r,x with | some (.tup vs),x=>⟨vs,rfl,x⟩
theorem rx(m:P->P')(n:Q->Q')(x:wT b P Q):wT b P' Q':=⟨λh=>m (x.1 h),λh=>n (x.2 h)⟩
def pN.aV(K:pN):Prop:=∀f vs h (Q Q':V->H->Prop),(∀v h,Q v h->Q' v h)->K.call f vs h Q->K.call f vs h Q'
variable{K:pN}
theorem yv:∀{n:Nat} {k:It} {x:V} {a j:Nat} {f f':V->H->(Option V->H->Prop)->Prop} {h:H} {Q Q':V->H->Prop},
  (∀v h (P P':Option V->H->Prop),(∀u h,P u h->P' u h)->f v h P->f' v h P')->(∀v h,Q v h->Q' v h)->xB K n k x a j f h Q->xB K n k x a j f' h Q'
 | 0,_,_,_,_,_,_,_,_,_,_,_,z=>z
 | n+1,k,x,a,j,f,f',h,Q,Q',mf,mq,z=>zo (mq _ _) (λw z=>mf _ _ _ _ (λu h y=>D4 (yv mf mq) (λw y=>rR (λw h y=>yv mf mq y) y) y) z) z
mutual
theorem jp(M:K.aV):∀(c:E) {e:nw} {h:H} {Q Q':V->H->Prop},(∀v h,Q v h->Q' v h)->ev K c e h Q->ev K c e h Q'
 | .bK,_,_,_,_,m,x=>m _ _ x
 | .bool _,_,_,_,_,m,x=>m _ _ x
 | .int _,_,_,_,_,m,x=>m _ _ x
 | .str _,_,_,_,_,m,x=>m _ _ x
 | .glo _ _,_,_,_,_,m,x=>m _ _ x
 | .loc i,e,_,_,_,m,x=>zo id (λw x=>m _ _ x) x
 | .and a b,_,_,_,_,m,x=>jp M a (λw w y=>p0 (λw y=>rx (jp M b m) (m _ _) y) y) x
 | .or a b,_,_,_,_,m,x=>jp M a (λw w y=>p0 (λw y=>rx (m _ _) (jp M b m) y) y) x
 | .not a,_,_,_,_,m,x=>jp M a (λw w y=>p0 (λw y=>m _ _ y) y) x
 | .neg a,_,_,_,_,m,x=>jp M a (λv w y=>Eh (λw y=>m _ _ y) y) x
 | .inv a,_,_,_,_,m,x=>jp M a (λv w y=>Eh (λw y=>m _ _ y) y) x
 | .bin o a b,_,_,_,_,m,x=>jp M a (λw w y=>jp M b (λw w y=>rR m y) y) x
 | .ite c a b,_,_,_,_,m,x=>jp M c (λw w y=>p0 (λw y=>rx (jp M a m) (jp M b m) y) y) x
 | .cmp a o b,_,_,_,_,m,x=>jp M a (λw w y=>jp M b (λw w y=>p0 (λw y=>m _ _ y) y) y) x
 | .bU a o b p c,_,_,_,_,m,x=>
  jp M a (λw w y=>jp M b (λw w y=>p0 (λw y=>rx (jp M c λw w y=>p0 (λw y=>m _ _ y) y) (m _ _) y) y) y) x
 | .list es,_,_,_,_,m,x=>vK M es (λw w y=>⟨y.1,m _ _ y.2⟩) x
 | .tup es,_,_,_,_,m,x=>vK M es (λw w y=>⟨y.1,m _ _ y.2⟩) x
 | .rep es n,_,_,_,_,m,x=>vK M es (λw w y=>⟨y.1,jp M n (λv w y=>Eh (λw y=>⟨y.1,y.2.1,y.2.2.1,m _ _ y.2.2.2⟩) y) y.2⟩) x
 | .comp elt i iter test,_,_,_,_,m,x=>
  jp M iter (λw w y=>Iu (λ_ ⟨n,y⟩=>⟨n,yv (λv h P P' mp z=>jp M test (λw w z=>p0 (λw z=>rx (jp M elt λw w z=>mp _ _ z) (mp _ _) z) z) z) m y⟩) y) x
 | .call _ f es,_,_,_,_,m,x=>vK M es (λw w y=>M _ _ _ _ _ m y) x
 | .len _ a,_,_,_,_,m,x=>jp M a (λw w y=>uN m y) x
 | .abs _ a,_,_,_,_,m,x=>jp M a (λw w y=>uN m y) x
 | .range _ es,_,_,_,_,m,x=>vK M es (λw w y=>rR m y) x
 | .index a b,_,_,_,_,m,x=>jp M a (λw w y=>⟨y.1,jp M b (λw w y=>uN m y) y.2⟩) x
 | .append a b,_,_,_,_,m,x=>jp M a (λw w y=>⟨y.1,jp M b (λw w y=>rR m y) y.2⟩) x
 | .pop a,_,_,_,_,m,x=>jp M a (λw w y=>rR m y) x
 | .attr a n,_,_,_,_,m,x=>jp M a (λw w y=>uN m y) x
 | .sub a b,_,_,_,_,m,x=>jp M a (λw w y=>jp M b (λw w y=>uN m y) y) x
 | .slice a b c,_,_,_,_,m,x=>jp M a (λw w y=>jp M b (λw w y=>jp M c (λw w y=>rR m y) y) y) x
theorem vK(M:K.aV):∀(c:Es) {e:nw} {h:H} {Q Q':List V->H->Prop},(∀v h,Q v h->Q' v h)->Te K c e h Q->Te K c e h Q'
 | .nil,_,_,_,_,m,x=>m _ _ x
 | .cons a es,_,_,_,_,m,x=>jp M a (λw w y=>vK M es (λw w y=>m _ _ y) y) x
end
theorem yx(M:K.aV):∀(t:af) {v:V} {e:nw} {h:H} {Q Q':nw->H->Prop},(∀e h,Q e h->Q' e h)->tM K t v e h Q->tM K t v e h Q'
 | .loc _,_,_,_,_,_,m,x=>m _ _ x
 | .tup is,v,_,h,_,_,m,x=>Qb (λw x=>⟨x.1,m _ _ x.2⟩) x
 | .attr a n,_,_,_,_,_,m,x=>jp M _ (λw w y=>Ai (λw y=>m _ _ y) y) x
 | .sub a i,_,_,_,_,_,m,x=>jp M _ (λw w y=>jp M _ (λw w y=>Ai (λw y=>m _ _ y) y) y) x
theorem Og(M:K.aV):∀(t:af) {o:Fk} {r:E} {e:nw} {h:H} {Q Q':nw->H->Prop},(∀e h,Q e h->Q' e h)->QM K t o r e h Q->QM K t o r e h Q'
 | .loc i,_,_,e,_,_,_,m,x=>zo id (λw x=>jp M _ (λw w y=>rR (λw w y=>m _ _ y) y) x) x
 | .tup _,_,_,_,_,_,_,_,x=>x
 | .attr a n,_,_,_,_,_,_,m,x=>
  jp M _ (λw w y=>uN (λw w y=>jp M _ (λw w y=>rR (λw w y=>Ai (λw y=>m _ _ y) y) y) y) y) x
 | .sub a i,_,_,_,_,_,_,m,x=>
  jp M _ (λw w y=>jp M _ (λw w y=>uN (λw w y=>jp M _ (λw w y=>rR (λw w y=>Ai (λw y=>m _ _ y) y) y) y) y) y) x
theorem xO(mp:∀e h,p e h->p' e h)(mq:∀f e h,Q f e h->Q' f e h)(f:Fl)(e:nw)(h:H)(x:o8 p Q f e h):o8 p' Q' f e h:=by
 cases f<;>first | exact mp _ _ x | exact mq _ _ _ x
theorem HX(mp:∀e h,p e h->p' e h)(mq:∀f e h,Q f e h->Q' f e h)(f:Fl)(e:nw)(h:H)(x:C8 p Q f e h):C8 p' Q' f e h:=by
 cases f<;>first | exact mp _ _ x | exact mq _ _ _ x
theorem GF:∀{n:Nat} {k:It} {x:V} {j:Nat} {f:V->nw->H->QS->Prop} {e:nw} {h:H} {Q Q':QS},
  (∀v e h (P P':QS),(∀u e h,P u e h->P' u e h)->f v e h P->f v e h P')->(∀f e h,Q f e h->Q' f e h)->Iy K n k x j f e h Q->Iy K n k x j f e h Q'
 | 0,_,_,_,_,_,_,_,_,_,_,z=>z
 | n+1,k,x,j,f,e,h,Q,Q',mf,mq,z=>zo (mq _ _ _) (λw z=>mf _ _ _ _ _ (xO (λw w y=>GF mf mq y) mq) z) z
theorem B7:∀{n:Nat} {c:nw->H->(Bool->H->Prop)->Prop} {f:nw->H->QS->Prop} {e:nw} {h:H} {Q Q':QS},
  (∀e h (P P':Bool->H->Prop),(∀t h,P t h->P' t h)->c e h P->c e h P')->
  (∀e h (P P':QS),(∀u e h,P u e h->P' u e h)->f e h P->f e h P')->(∀f e h,Q f e h->Q' f e h)->AE n c f e h Q->AE n c f e h Q'
 | 0,_,_,_,_,_,_,_,_,_,z=>z
 | n+1,c,f,e,h,Q,Q',mc,mf,mq,z=>
  mc _ _ _ _ (λt h y=>rx (mf _ _ _ _ (xO (λw w y=>B7 mc mf mq y) mq)) (mq _ _ _) y) z
mutual
theorem Rh(M:K.aV):∀(c:S) {e:nw} {h:H} {Q Q':QS},(∀f e h,Q f e h->Q' f e h)->evS K c e h Q->evS K c e h Q'
 | .assign t r,_,_,_,_,m,x=>jp M r (λw w y=>yx M t (λw w y=>m _ _ _ y) y) x
 | .aug t o r,_,_,_,_,m,x=>Og M t (λw w y=>m _ _ _ y) x
 | .expr r,_,_,_,_,m,x=>jp M r (λv w y=>SV (m _ _ _) y) x
 | .ret r,_,_,_,_,m,x=>jp M r (λw w y=>m _ _ _ y) x
 | .ite c a b,_,_,_,_,m,x=>jp M c (λw w y=>p0 (λw y=>rx (tz M a m) (tz M b m) y) y) x
 | .loop c b,_,_,_,_,m,x=>let ⟨n,x⟩:=x
  ⟨n,B7 (λw w w w mp z=>jp M c (λw w z=>p0 (λw z=>mp _ _ z) z) z) (λw w w w mp z=>tz M b mp z) m x⟩
 | .each t it b,_,_,_,_,m,x=>
  jp M it (λw w y=>Iu (λ_ ⟨g,n,y⟩=>⟨g,n,GF (λw w w w w mp z=>yx M t (λw w z=>tz M b mp z) z) m y⟩) y) x
 | .brk,_,_,_,_,m,x=>m _ _ _ x
 | .fail,_,_,_,_,_,x=>x
theorem tz(M:K.aV):∀(c:Ss) {e:nw} {h:H} {Q Q':QS},(∀f e h,Q f e h->Q' f e h)->uO K c e h Q->uO K c e h Q'
 | .nil,_,_,_,_,m,x=>m _ _ _ x
 | .cons s r,_,_,_,_,m,x=>Rh M s (HX (λw w y=>tz M r m y) m) x
end
end
section
def uh:Nat->Addr
 | 0=>177 | 1=>296 | _=>828
def Z3:List Str:=(["files","ranks","size","full","has_double","has_castling","file_masks","rank_masks","rays","king","knight","pawn","castles","rights_lost",
 "geo","zob","board","kinds","sides","side","rights","ep","half","key","history","pieces"]:List String).map bb
def pK(n:Nat):Str:=Z3.getD n (bb "full")
abbrev tv:=List (Addr × Addr)
def VR(Z:tv):V->nr->Prop
 | .none,.none=>True
 | .bool b,.bool c=>b=c
 | .int i,.int j _=>i=j
 | .str s,.str t _=>s=t
 | .ref i,.ref a=>∃d,Z[i]? =J (a,d)
 | .con a,.ref b=>a=b
 | _,_=>False
inductive qX (Z:tv):List V->List nr->Prop
 | nil:qX Z [] []
 | cons {x y xs ys}:VR Z x y->qX Z xs ys->qX Z (x::xs) (y::ys)
inductive HW (Z:tv):List (Nat × V)->List nM->Prop
 | nil:HW Z [] []
 | cons {n v e fs es}:n<26->(∃t,e.key= .str (pK n) t)->VR Z v e.val->HW Z fs es->HW Z ((n,v)::fs) (e::es)
def OR(Z:tv)(h:Heap)(a d:Addr):O->Prop
 | .list xs=>a=d/\∃vs n,IsL h a vs.toArray n/\qX Z xs vs
 | .tup xs=>a=d/\∃vs,IsTup h a vs.toArray/\qX Z xs vs
 | .aT x y z=>a=d/\∃t u v,IsRange h a x y z t u v
 | .inst c fs=>a≠d/\h.get? a=J {cls:=.ref (uh c),dict:=J d,data:=.plain}/\∃es n,h.get? d=J (dictOf es n)/\HW Z fs es
def Sep(Z:tv):Prop:=∀(i j:Nat) (p q:Addr × Addr),Z[i]? =J p->Z[j]? =J q->i≠j->p.1≠q.1/\p.1≠q.2/\p.2≠q.1/\p.2≠q.2
structure pA (B:Heap) (Z:tv) (T:H) (h:Heap):Prop where
 len:Z.length=T.length
 at_:∀(i:Nat) (p:Addr × Addr) (o:O),Z[i]? =J p->T[i]? =J o->OR Z h p.1 p.2 o
 sep:Sep Z
 hi:∀(i:Nat) (p:Addr × Addr),Z[i]? =J p->B.get? p.1=U/\B.get? p.2=U
 base:∀b o,B.get? b=J o->h.get? b=J o
def BU(Z:tv)(a:Addr):Prop:=∀(i:Nat) (p:Addr × Addr),Z[i]? =J p->a≠p.1/\a≠p.2
def vA(Z:tv)(h h':Heap):Prop:=∀b o,h.get? b=J o->BU Z b->h'.get? b=J o
structure we (Z aL:tv) (h:Heap):Prop where
 old:∀(i:Nat) (p:Addr × Addr),Z[i]? =J p->aL[i]? =J p
 new:∀(i:Nat) (p:Addr × Addr),Z.length<=i->aL[i]? =J p->h.get? p.1=U/\h.get? p.2=U
theorem f0{l:List α}{i:Nat}{x:α}(h:l[i]? =J x):i<l.length:=(gb.mp h).1
theorem we.refl(Z:tv)(h:Heap):we Z Z h:=⟨λw w e=>e,λi p hi e=>cJ (f0 e) (fX.mpr hi)⟩
theorem HN(h:¬BU Z a):∃(i:Nat) (p:Addr × Addr),Z[i]? =J p/\(a=p.1\/a=p.2):=by
 refine cM λk=>h λi p e=>⟨λq=>k ⟨i,p,e,.inl q⟩,λq=>k ⟨i,p,e,.inr q⟩⟩
theorem we.trans{h h':Heap}(x:we Z aL h)(y:we aL ρ'' h')(k:vA Z h h')(sp:Sep ρ''):we Z ρ'' h:=by
 refine⟨λi p e=>y.old i p (x.old i p e),λi p hi e=>?_⟩;by_cases q:i<aL.length
 .have e1:=y.old i _ (a7 q);rw[e1] at e;have e2:aL[i]? =J p:=(a7 q).trans e;exact x.new i p hi e2
 .have z:=y.new i p (d7 q) e;have key:∀a,(a=p.1\/a=p.2)->h'.get? a=U->h.get? a=U:=λa ha hn=>by
   cases g:h.get? a with
   | none=>rfl
   | some o=>
    by_cases ho:BU Z a
    .rw[k a o g ho] at hn;cases hn
    .obtain⟨j,r,hj,hr⟩:=HN ho;have hj':=y.old j r (x.old j r hj);have ne:i≠j:=λt=>by subst t;exact cJ (f0 hj) (fX.mpr hi)
     have s:=sp i j p r e hj' ne;rcases ha with rfl | rfl<;>rcases hr with hr | hr
     .exact cJ hr s.1
     .exact cJ hr s.2.1
     .exact cJ hr s.2.2.1
     .exact cJ hr s.2.2.2
  exact⟨key _ (.inl rfl) z.1,key _ (.inr rfl) z.2⟩
theorem BU.ext(x:BU Z a)(y:we Z aL h)(l:h.get? a=J o):BU aL a:=by
 intro i p e;by_cases q:i<Z.length
 .have e1:=y.old i _ (a7 q);rw[e1] at e;exact x i p ((a7 q).trans e)
 .have z:=y.new i p (d7 q) e;exact⟨λt=>(by rw[<- t,l] at z;exact(nomatch z.1)),λt=>(by rw[<- t,l] at z;exact(nomatch z.2))⟩
theorem vA.refl(Z:tv)(h:Heap):vA Z h h:=λw w e w=>e
theorem vA.trans(x:vA Z h h')(y:vA aL h' h'')(e:we Z aL h):vA Z h h'':=λb o g n=>
 y b o (x b o g n) (n.ext e g)
theorem VR.mono(k:∀(i:Nat) (p:Addr × Addr),Z[i]? =J p->aL[i]? =J p)(h:VR Z x v):VR aL x v:=by
 cases x<;>cases v<;>first | exact h | (obtain⟨d,e⟩:=h;exact⟨d,k _ _ e⟩)
theorem qX.mono(k:∀(i:Nat) (p:Addr × Addr),Z[i]? =J p->aL[i]? =J p)(h:qX Z xs vs):qX aL xs vs:=by
 induction h with
 | nil=>exact .nil
 | cons a _ ih=>exact .cons (a.mono k) ih
theorem HW.mono(k:∀(i:Nat) (p:Addr × Addr),Z[i]? =J p->aL[i]? =J p)(h:HW Z xs vs):HW aL xs vs:=by
 induction h with
 | nil=>exact .nil
 | cons l a b _ ih=>exact .cons l a (b.mono k) ih
theorem OR.keep{h h':Heap}{a d:Addr}{o:O}(x:OR Z h a d o)(k:∀(i:Nat) (p:Addr × Addr),Z[i]? =J p->aL[i]? =J p)(ka:∀ob,h.get? a=J ob->h'.get? a=J ob)(kd:∀ob,h.get? d=J ob->h'.get? d=J ob):OR aL h' a d o:=by
 ext Z aL h h' a d o;cases o with
 | list xs=>obtain⟨e,vs,n,g,m⟩:=x;exact⟨e,vs,n,ka _ g,m.mono k⟩
 | tup xs=>obtain⟨e,vs,⟨ob,g,r⟩,m⟩:=x;exact⟨e,vs,⟨ob,ka _ g,r⟩,m.mono k⟩
 | aT x y z=>obtain⟨e,t,u,v,g⟩:=x;exact⟨e,t,u,v,ka _ g⟩
 | inst c fs=>obtain⟨ne,g,es,n,g2,m⟩:=x;exact⟨ne,ka _ g,es,n,kd _ g2,m.mono k⟩
theorem OR.alive(x:OR Z h a d o):(∃ob,h.get? a=J ob)/\∃ob,h.get? d=J ob:=by
 ext Z h a d o;cases o with
 | list xs=>obtain⟨rfl,vs,n,g,m⟩:=x;exact⟨⟨_,g⟩,_,g⟩
 | tup xs=>obtain⟨rfl,vs,⟨ob,g,r⟩,m⟩:=x;exact⟨⟨_,g⟩,_,g⟩
 | aT x y z=>obtain⟨rfl,t,u,v,g⟩:=x;exact⟨⟨_,g⟩,_,g⟩
 | inst c fs=>obtain⟨ne,g,es,n,g2,m⟩:=x;exact⟨⟨_,g⟩,_,g2⟩
variable{B:Heap}{Z:tv}{T:H}{h h':Heap}
theorem pA.alive(R:pA B Z T h){i:Nat}{p:Addr × Addr}(e:Z[i]? =J p):(∃ob,h.get? p.1=J ob)/\∃ob,h.get? p.2=J ob:=by
 have l:i<T.length:=by rw[<- R.len];exact f0 e
 exact(R.at_ i p _ e (a7 l)).alive
theorem pA.fresh(R:pA B Z T h){a:Addr}(g:h.get? a=U):BU Z a/\B.get? a=U:=by
 refine⟨λi p e=>?_,?_⟩
 .obtain⟨⟨o1,h1⟩,o2,h2⟩:=R.alive e;exact⟨λt=>(by rw[<- t,g] at h1;cases h1),λt=>(by rw[<- t,g] at h2;cases h2)⟩
 .cases q:B.get? a with
  | none=>rfl
  | some o=>rw[R.base a o q] at g;cases g
theorem qM(h:Heap):h.get? h.objs.size=U:=iW (da _)
theorem pA.out(R:pA B Z T h)(k:∀(i:Nat) (p:Addr × Addr),Z[i]? =J p->(∀o,h.get? p.1=J o->h'.get? p.1=J o)/\(∀o,h.get? p.2=J o->h'.get? p.2=J o))(kb:∀b o,B.get? b=J o->h'.get? b=J o):pA B Z T h':=
 ⟨R.len,λi p o e1 e2=>(R.at_ i p o e1 e2).keep (λw w e=>e) (k i p e1).1 (k i p e1).2,R.sep,R.hi,kb⟩
theorem pA.push(R:pA B Z T h)(o:Obj):pA B Z T (h.push o):=
 R.out (λi p w=>⟨λw e=>dB o e,λw e=>dB o e⟩) (λb ob e=>dB o (R.base b ob e))
theorem pA.extBut(R:pA B Z T h)(hs:gK a h h')(n:BU Z a)(hb:B.get? a=U):pA B Z T h':=
 R.out (λi p e=>⟨λo g=>hs _ o (dT (n i p e).1) g,λo g=>hs _ o (dT (n i p e).2) g⟩) (λb o e=>hs b o (λt=>by rw[t,hb] at e;cases e) (R.base b o e))
theorem pA.sameBut(R:pA B Z T h)(hs:lR a h h')(n:BU Z a)(hb:B.get? a=U):pA B Z T h':=R.extBut hs.extBut n hb
theorem vA.push(Z:tv)(h:Heap)(o:Obj):vA Z h (h.push o):=λw w e w=>dB o e
theorem sL(e:(l++[x])[i]? =J y):l[i]? =J y\/(i=l.length/\y=x):=by
 by_cases q:i<l.length
 .rw[ae q] at e;exact .inl e
 .rw[cT (d7 q)] at e;have:i - l.length=0:=by
   cases z:i - l.length with
   | zero=>rfl
   | succ n=>rw[z] at e;cases e
  rw[this] at e;cases e;exact .inr ⟨by lia,rfl⟩
theorem uC{l:List α}{x y:α}{i:Nat}(e:l[i]? =J y):(l++[x])[i]? =J y:=by rw[ae (f0 e)];exact e
theorem um(l:List α)(x:α):(l++[x])[l.length]? =J x:=by rw[cT (da _),eE];rfl
theorem pA.new(R:pA B Z T h)(a d:Addr)(o:O)(x:OR (Z++[(a,d)]) h' a d o)(na:h.get? a=U)(nd:h.get? d=U)(k:∀b ob,h.get? b=J ob->h'.get? b=J ob):
  pA B (Z++[(a,d)]) (T++[o]) h':=by
 have fa:=R.fresh na;have fd:=R.fresh nd;refine⟨by rw[a6,a6,R.len];rfl,λi p o' e1 e2=>?_,λi j p q e1 e2 ne=>?_,λi p e=>?_,λb o' e=>k b o' (R.base b o' e)⟩
 .rcases sL e1 with e1 | ⟨rfl,rfl⟩
  .rcases sL e2 with e2 | ⟨q,rfl⟩
   .exact(R.at_ i p o' e1 e2).keep (λi p e=>uC e) (λw g=>k _ _ g) (λw g=>k _ _ g)
   .have:=f0 e1;rw[R.len] at this;lia
  .rcases sL e2 with e2 | ⟨_,rfl⟩
   .have:=f0 e2;rw[R.len] at this;lia
   .exact x
 .rcases sL e1 with e1 | ⟨rfl,rfl⟩<;>rcases sL e2 with e2 | ⟨rfl,rfl⟩
  .exact R.sep i j p q e1 e2 ne
  .have:=fa.1 i p e1;have y:=fd.1 i p e1;exact⟨dT this.1,dT y.1,dT this.2,dT y.2⟩
  .have:=fa.1 j q e2;have y:=fd.1 j q e2;exact⟨this.1,this.2,y.1,y.2⟩
  .exact cJ rfl ne
 .rcases sL e with e | ⟨rfl,rfl⟩
  .exact R.hi i p e
  .exact⟨fa.2,fd.2⟩
theorem we.snoc(Z:tv)(h:Heap){a d:Addr}(ha:h.get? a=U)(hd:h.get? d=U):we Z (Z++[(a,d)]) h:=by
 refine⟨λi p e=>uC e,λi p hi e=>?_⟩;rcases sL e with e | ⟨_,rfl⟩
 .exact cJ (f0 e) (fX.mpr hi)
 .exact⟨ha,hd⟩
theorem t9{α:Type}{l:List α}{x y:α}(e:(l.set i x)[j]? =J y):(i=j/\y=x/\i<l.length)\/(i≠j/\l[j]? =J y):=by
 rw[iH] at e;split at e
 .rename_i q;split at e
  .cases e;exact .inl ⟨q,rfl,by assumption⟩
  .cases e
 .rename_i q;exact .inr ⟨q,e⟩
theorem pA.put{a d c:Addr}{o':O}(R:pA B Z T h)(hi:Z[i]? =J (a,d))(hc:c=a\/c=d)(hs:gK c h h')(x:OR Z h' a d o'):pA B Z (T.set i o') h':=by
 ext B Z T h h' i a d c o';have hb:=R.hi i _ hi;have cb:B.get? c=U:=by rcases hc with rfl | rfl;exact hb.1;exact hb.2
 refine⟨by rw[cR];exact R.len,λj p o e1 e2=>?_,R.sep,R.hi,λb o e=>hs b o (λt=>by rw[t,cb] at e;cases e) (R.base b o e)⟩;ext j p o;rcases t9 e2 with⟨rfl,rfl,_⟩ | ⟨ne,e2⟩
 .rw[hi] at e1;cases e1;exact x
 .have s:=R.sep i j _ _ hi e1 ne;refine(R.at_ j p o e1 e2).keep (λw w e=>e) (λob g=>?_) (λob g=>?_)
  .exact hs p.1 ob (by rcases hc with rfl | rfl;exact dT s.1;exact dT s.2.2.1) g
  .exact hs p.2 ob (by rcases hc with rfl | rfl;exact dT s.2.1;exact dT s.2.2.2) g
theorem vA.put{i:Nat}(hi:Z[i]? =J (a,d))(hc:c=a\/c=d)(hs:gK c h h'):vA Z h h':=λb o g n=>
 hs b o (by rcases hc with rfl | rfl;exact(n i _ hi).1;exact(n i _ hi).2) g
structure vU (B:Heap) (Z:tv) (s:nB) (aK:H) (v:V) (aL:tv) (val:nr) (s':nB):Prop where
 ext:we Z aL s.heap
 rel:pA B aL aK s'.heap
 keep:vA Z s.heap s'.heap
 val:VR aL v val
 gens:s'.gens=s.gens
 os:s'.os=s.os
abbrev aaF(B:Heap)(Z:tv)(s:nB)(aK:H)(v:V)(val:nr)(s':nB):Prop:=∃aL,vU B Z s aK v aL val s'
def Bk(B:Heap)(Z:tv)(s:nB)(Q:V->H->Prop)(val:nr)(s':nB):Prop:=∃v aK,Q v aK/\aaF B Z s aK v val s'
abbrev qH:nr->nB->Prop:=λw w=>False
section
variable{aL bX ρ₂:tv}{aK σ₁ σ₂:H}{s s₁ s₂:nB}{v v₁ v₂:V}{val w₁ w₂:nr}{Q:V->H->Prop}
theorem vU.same(R:pA B Z T s.heap)(x:VR Z v val):vU B Z s T v Z val {s with toks:=t,drawn:=d}:=
 ⟨.refl _ _,R,.refl _ _,x,rfl,rfl⟩
theorem vU.trans(x:vU B Z s σ₁ v₁ bX w₁ s₁)(y:vU B bX s₁ σ₂ v₂ ρ₂ w₂ s₂):vU B Z s σ₂ v₂ ρ₂ w₂ s₂:=
 ⟨x.ext.trans y.ext x.keep y.rel.sep,y.rel,x.keep.trans y.keep x.ext,y.val,y.gens.trans x.gens,y.os.trans x.os⟩
theorem vU.bA(x:vU B Z s σ₁ v₁ bX w₁ s₁)(y:VR bX v val):vU B Z s σ₁ v bX val s₁:=⟨x.ext,x.rel,x.keep,y,x.gens,x.os⟩
theorem Bk.of(x:vU B Z s σ₁ v₁ bX w₁ s₁)(y:Bk B bX s₁ Q val s₂):Bk B Z s Q val s₂:=by
 obtain⟨v,aK,q,aL,p⟩:=y;exact⟨v,aK,q,aL,x.trans p⟩
theorem Bk.now(q:Q v T)(R:pA B Z T s.heap)(x:VR Z v val):Bk B Z s Q val {s with toks:=t,drawn:=d}:=⟨v,T,q,Z,vU.same R x⟩
theorem Bk.mono(m:∀v T,Q v T->Q' v T)(x:Bk B Z s Q val s₂):Bk B Z s Q' val s₂:=by
 obtain⟨v,aK,q,p⟩:=x;exact⟨v,aK,m _ _ q,p⟩
end
end
section
variable{aR:nN}{w:dw}{A:nQ}{B:Heap}{Z:tv}{T aK:H}{s:nB}
theorem VR.bf(h:VR Z (.ref i) x):∃a d,x= .ref a/\Z[i]? =J (a,d):=by
 cases x<;>first | exact h.elim | (obtain⟨d,e⟩:=h;exact⟨_,d,rfl,e⟩)
theorem VR.int_inv(h:VR Z (.int i) x):∃t,x= .int i t:=by
 cases x<;>first | exact h.elim | (obtain rfl:i=_:=h;exact⟨_,rfl⟩)
theorem VR.bool_inv(h:VR Z (.bool i) x):x= .bool i:=by
 cases x<;>first | exact h.elim | (obtain rfl:i=_:=h;rfl)
theorem VR.str_inv(h:VR Z (.str i) x):∃t,x= .str i t:=by
 cases x<;>first | exact h.elim | (obtain rfl:i=_:=h;exact⟨_,rfl⟩)
theorem VR.none_inv(h:VR Z .none x):x= .none:=by
 cases x<;>first | exact h.elim | rfl
theorem VR.bW(h:VR Z (.con i) x):x= .ref i:=by
 cases x<;>first | exact h.elim | (obtain rfl:i=_:=h;rfl)
theorem Bk.new1(R:pA B Z T s.heap)(x:OR (Z++[(s.heap.objs.size,s.heap.objs.size)]) (s.heap.push ob) s.heap.objs.size s.heap.objs.size o)(q:Q (.ref T.length) (T++[o])):
  Bk B Z s Q (.ref s.heap.objs.size) {s with heap:=s.heap.push ob,toks:=t}:=
 ⟨_,_,q,Z++[(s.heap.objs.size,s.heap.objs.size)],.snoc _ _ (qM _) (qM _),R.new _ _ o x (qM _) (qM _) λw w g=>dB _ g,.push _ _ _,⟨s.heap.objs.size,by rw[<- R.len];exact um _ _⟩,rfl,rfl⟩
theorem OR.newList(m:qX Z xs vs)(h:Heap):OR (Z++[(h.objs.size,h.objs.size)]) (h.push {cls:=.type "list",data:=.seq vs.toArray}) h.objs.size h.objs.size (.list xs):=
 ⟨rfl,vs,0,IsL.new _ _,m.mono λi p e=>uC e⟩
theorem OR.newTup(m:qX Z xs vs)(h:Heap):OR (Z++[(h.objs.size,h.objs.size)]) (h.push {cls:=.type "tuple",data:=.seq vs.toArray}) h.objs.size h.objs.size (.tup xs):=
 ⟨rfl,vs,IsTup.new _ _,m.mono λi p e=>uC e⟩
theorem qX.length(m:qX Z xs vs):xs.length=vs.length:=by
 induction m with
 | nil=>rfl
 | cons _ _ ih=>simp [ih]
theorem qX.append(m:qX Z xs vs)(n:qX Z ys ws):qX Z (xs++ys) (vs++ws):=by
 induction m with
 | nil=>exact n
 | cons a _ ih=>exact .cons a ih
theorem qX.get(m:qX Z xs vs):∀{i:Nat} {x:V},xs[i]? =J x->∃v,vs[i]? =J v/\VR Z x v:=by
 induction m with
 | nil=>intro i x e;cases e
 | cons a _ ih=>
  intro i x e;cases i with
  | zero=>cases e;exact⟨_,rfl,a⟩
  | succ i=>exact ih (i:=i) e
theorem qX.set(m:qX Z xs vs)(a:VR Z y u):∀(i:Nat),qX Z (xs.set i y) (vs.set i u):=by
 induction m with
 | nil=>intro i;exact .nil
 | cons b n ih=>
  intro i;cases i with
  | zero=>exact .cons a n
  | succ i=>exact .cons b (ih i)
theorem qX.take(m:qX Z xs vs):∀(n:Nat),qX Z (xs.take n) (vs.take n):=by
 induction m with
 | nil=>intro n;simp;exact .nil
 | cons b _ ih=>
  intro n;cases n with
  | zero=>exact .nil
  | succ n=>exact .cons b (ih n)
theorem qX.drop(m:qX Z xs vs):∀(n:Nat),qX Z (xs.drop n) (vs.drop n):=by
 induction m with
 | nil=>intro n;simp;exact .nil
 | cons b c ih=>
  intro n;cases n with
  | zero=>exact .cons b c
  | succ n=>exact ih n
theorem qX.rep(m:qX Z xs vs):∀(n:Nat),qX Z (cZ n xs).flatten (cZ n vs).flatten
 | 0=>.nil
 | n+1=>by
  rw[fQ,fQ,iI,iI];exact m.append (qX.rep m n)
theorem xk(h:small a=b9):a.natAbs<2 ^ 64:=by
 ext a;unfold small at h;simp only[ax,cA] at h;lia
theorem VH(ha:small a=b9)(_hb:small b=b9):IntMulOk a b:=by
 ext a b;unfold IntMulOk;have:jd a<=64:=intBits_le_64 (by have:=xk ha;lia) (by have:=xk ha;lia);have:cu (jd a>shortFactorBits)=cj:=cD (by unfold shortFactorBits;lia);rw[this];simp
def YB:Fk->oa
 | .add=>.Add | .sub=>.Sub | .mul=>.Mult | .div=>.FloorDiv | .mod=>.Mod | .shl=>.LShift | .shr=>.RShift | .band=>.BitAnd | .bor=>.BitOr | .bxor=>.BitXor
theorem GK{a b:Int}(h1:0<b)(h2:b<1000000):i9 a b=cj:=by
 ext a b;unfold i9;have hb:b.natAbs.log2<30:=(Nat.log2_lt (by lia)).mpr (by lia);have z:b.natAbs.log2/30=0:=by lia
 simp only[z];split<;>rfl
theorem CU(h:tj r Q):∃v T,r=J (v,T)/\Q v T:=by
 match r with
 | .none=>exact h.elim
 | some (v,T)=>exact⟨v,T,rfl,h⟩
theorem v8(h:GQ r T Q):∃v,r=J v/\Q v T:=by
 match r with
 | .none=>exact h.elim
 | some v=>exact⟨v,rfl,h⟩
theorem tH(h:yo r Q):∃v,r=J v/\Q v:=by
 match r with
 | .none=>exact h.elim
 | some v=>exact⟨v,rfl,h⟩
theorem MA(h:PH r Q):∃v,r=J v/\Q v:=by
 match r with
 | .none=>exact h.elim
 | some v=>exact⟨v,rfl,h⟩
theorem Bk.int(R:pA B Z T s.heap)(q:Q (.int i) T):Bk B Z s Q (.int i u) {s with toks:=t}:=Bk.now q R (show VR Z (.int i) (.int i u) from rfl)
theorem Bk.bool(R:pA B Z T s.heap)(q:Q (.bool b) T):Bk B Z s Q (.bool b) {s with toks:=t}:=Bk.now q R (show VR Z (.bool b) (.bool b) from rfl)
theorem Bk.none(R:pA B Z T s.heap)(q:Q .none T):Bk B Z s Q .none {s with toks:=t}:=Bk.now q R (show VR Z .none .none from trivial)
theorem uj(R:pA B Z T s.heap)(hx:VR Z (.ref i) x)(e:T[i]? =J (.list xs)):∃a vs n,x= .ref a/\Z[i]? =J (a,a)/\IsL s.heap a vs.toArray n/\qX Z xs vs:=by
 ext B Z T s i xs x;obtain⟨a,d,rfl,g⟩:=hx.bf;obtain⟨ed,vs,n,l,m⟩:=R.at_ i _ _ g e;obtain rfl:a=d:=ed;exact⟨a,vs,n,rfl,g,l,m⟩
theorem oJ{a:α}{C:Prop}(h:(U:Option α)=J a):C:=nomatch h
theorem sW[i:Decidable c](e:tj (if c then J (v,h) else .none) Q):c/\Q v h:=by
 cases i with
 | isTrue q=>exact⟨q,e⟩
 | isFalse q=>exact e.elim
theorem Tj(e:tj (pD o (.int a) (.int b) T) Q)(R:pA B Z T s.heap):
  nE (model aR w) A (binaryOp (YB o) (.int a t) (.int b u)) (Bk B Z s Q) qH s:=by
 cases o with
 | add=>exact add_int (Bk.int R e)
 | sub=>exact sub_int' (Bk.int R e)
 | mul=>exact have e:=sW e;mul_int (Bk.int R e.2) (VH (dc.mp e.1).1 (dc.mp e.1).2)
 | div=>
  have e:=sW e;have l:=dc.mp e.1;exact floordiv_int (jZ (cy l.1)) (Bk.int R e.2) (.inl (GK (cy l.1) (cy l.2)))
 | mod=>exact have e:=sW e;mod_int' (jZ e.1) (Bk.int R e.2)
 | shl=>
  have e:=sW e;have l:=dc.mp e.1;have l2:=dc.mp l.1;exact lshift_int_small (cy l2.1) (cy l2.2) (xk l.2) (Bk.int R e.2)
 | shr=>exact have e:=sW e;rshift_int e.1 (Bk.int R e.2)
 | band=>exact and_int (Bk.int R e)
 | bor=>exact or_int (Bk.int R e)
 | bxor=>exact xor_int (Bk.int R e)
theorem ui:1000000<sizeLine:=by decide +kernel
theorem vq(h:n<=1000):n<=sizeLine:=cS h (cS ⋯ (dJ ui))
@[elab_as_elim] theorem Vk{x y:V}{Q:V->H->Prop}{C:V->V->Prop}(e:tj (pD o x y T) Q)(ci:∀a b,tj (pD o (.int a) (.int b) T) Q->C (.int a) (.int b))(cr:∀a b,tj (pD o (.ref a) (.ref b) T) Q->C (.ref a) (.ref b)):C x y:=by
 cases x<;>cases y<;>first | exact ci _ _ e | exact cr _ _ e | exact e.elim
theorem Gv(e:tj (TA o r q F) Q):∃xs ys,o= .add/\r=J (.list xs)/\q=J (.list ys)/\xs.length+ys.length<=1000/\Q (F xs ys).1 (F xs ys).2:=by
 ext o r q F Q;cases o<;>first | exact e.elim | skip
 cases r with
 | none=>exact e.elim
 | some o1=>
  cases o1<;>first | exact e.elim | skip
  cases q with
  | none=>exact e.elim
  | some o2=>cases o2<;>first | exact e.elim | exact⟨_,_,rfl,rfl,rfl,sW e⟩
theorem Oa{x y:V}{vx vy:nr}{Q:V->H->Prop}(e:tj (pD o x y T) Q)(R:pA B Z T s.heap)(hx:VR Z x vx)(hy:VR Z y vy):
  nE (model aR w) A (binaryOp (YB o) vx vy) (Bk B Z s Q) qH s:=by
 ext aR w A B Z T s o x y vx vy Q;revert hx hy;refine Vk e (λa b e hx hy=>?_) λa b e hx hy=>?_
 .obtain⟨t,rfl⟩:=hx.int_inv;obtain⟨u,rfl⟩:=hy.int_inv;exact Tj e R
 .obtain⟨xs,ys,rfl,q1,q2,hz,e⟩:=Gv (o:=o) (r:=T[a]?) (q:=T[b]?) (F:=λxs ys=>(V.ref T.length,T++[O.list (xs++ys)])) e;obtain⟨c,vs,n,rfl,g1,l1,m1⟩:=uj R hx q1;obtain⟨d,ws,n2,rfl,g2,l2,m2⟩:=uj R hy q2;refine P.add_list l1 l2 ?_ (vq (by rw[dM,dM,<-m1.length,<-m2.length];exact hz));have h:=Bk.new1 (s:=s) (Q:=Q) R (OR.newList (m1.append m2) s.heap) e (t:=s.toks);rw[je];exact h
theorem bd{o:Option α}{f:α->Option β}{r:β}{C:Prop}(h:o.bind f=J r)(c:∀a,o=J a->f a=J r->C):C:=(iC.mp h).elim λa h=>c a h.1 h.2
theorem Bm{x:V}{F:Nat->Option β}{r:β}{C:Prop}(e:SA x F=J r)(c:∀a,x= .ref a->F a=J r->C):C:=by cases x<;>first | exact oJ e | exact c _ rfl e
theorem KJ{x:V}{F:Int->Option β}{r:β}{C:Prop}(e:YA x F=J r)(c:∀a,x= .int a->F a=J r->C):C:=by cases x<;>first | exact oJ e | exact c _ rfl e
theorem E7{β:Type}{F:List V->Option β}{r:β}{C:Prop}(e:Ye x F=J r)(c:∀xs,x=J (.list xs)->F xs=J r->C):C:=by
 revert F;ext x;cases x with
 | none=>exact oJ e
 | some o=>cases o<;>first | exact oJ e | exact c _ rfl e
theorem S7{x:Option O}{F:Nat->List (Nat × V)->Option β}{r:β}{C:Prop}(e:Zx x F=J r)(c:∀k fs,x=J (.inst k fs)->F k fs=J r->C):C:=by
 cases x with
 | none=>exact oJ e
 | some o=>cases o<;>first | exact oJ e | exact c _ _ rfl e
theorem Sb{p:Prop}[i:Decidable p]{v r:α}{C:Prop}(e:(if p then J v else .none)=J r)(c:p->v=r->C):C:=by
 cases i with
 | isTrue q=>exact c q (cL e)
 | isFalse q=>exact oJ e
theorem Gj{K:pN}{x y v:V}(e:xf K x y T=J v):∃i xs,y= .int i/\pQ K T x=J xs/\(0<=i/\i<1000000)/\xs[i.toNat]? =J v:=by
 ext T K x y v;exact KJ e λi hy e=>bd e λxs q e=>⟨i,xs,hy,q,Option.ite_none_right_eq_some.mp e⟩
theorem LR{Q:V->H->Prop}(he:tj (pu x y T) Q):∃i xs,x= .ref i/\T[i]? =J (.list xs)/\xs.length<1000/\Q .none (T.set i (.list (xs++[y]))):=by
 ext T x y Q;obtain⟨v,aK,e,q⟩:=CU he;exact Bm e λi hx e=>E7 e λxs g e=>Sb e λl e=>by cases (e);exact⟨i,xs,hx,g,l,q⟩
theorem yL:∀{xs:List V} {is:List Int},uK xs=J is->xs=is.map V.int
 | [],is,q=>cL q▸rfl
 | x::xs,is,q=>by
  cases x with
  | int i=>
   obtain⟨r,e1,e2⟩:=dj.mp q;rw[<- e2,yL e1];rfl
  | _=>exact oJ q
theorem QE{Q:V->H->Prop}{C:List V->Prop}(he:tj (te xs T) Q)(c1:∀b,Q (.ref T.length) (T++[.aT 0 b 1])->C [.int b])(c2:∀a b,Q (.ref T.length) (T++[.aT a b 1])->C [.int a,.int b])
  (c3:∀a b c,((c=1\/c=2)\/c=-1)->Q (.ref T.length) (T++[.aT a b c])->C [.int a,.int b,.int c]):C xs:=by
 obtain⟨v,aK,e,q⟩:=CU he;refine bd e λis e1 e=>?_;rw[yL e1];have go:∀{r:Rz V},r=J (v,aK)->tj r Q:=λe=>by rw[e];exact q
 match is,e with
 | [a],e=>exact c1 a (sW (go e)).2
 | [a,b],e=>exact c2 a b (sW (go e)).2
 | a::b::c::r,e=>
  have z:=sW (go e);have l:=dc.mp z.1;obtain rfl:=jM.mp l.1;exact c3 a b c ((ew.mp (dc.mp l.2).2).imp (λh=>(ew.mp h).imp cK cK) cK) z.2
 | [],e=>exact oJ e
end
section
open PySem PySem.W PyProof.Rows PySem.SeqAt
section
variable{aR:nN}{w:dw}{A:nQ}{B:Heap}{Z:tv}{T aK:H}{s:nB}
theorem wu(h:qA f (x::xs) (y::ys)=J b):∃a c,f x y=J a/\qA f xs ys=J c/\b=(a&&c):=by
 have h:(match f x y,qA f xs ys with | some a,J b=>J (a&&b) | _,_=>.none)=J b:=h;cases e1:f x y with
 | none=>rw[e1] at h;exact oJ h
 | some a=>
  rw[e1] at h;cases e2:qA f xs ys with
  | none=>rw[e2] at h;exact oJ h
  | some c=>rw[e2] at h;exact⟨a,c,rfl,rfl,(cL h).symm⟩
theorem y8(hf:∀x b,f x x=J b->b=b9):∀(xs:List V) (b:Bool),qA f xs xs=J b->b=b9
 | [],b,h=>(cL h).symm
 | x::xs,b,h=>by
  obtain⟨a,c,e1,e2,e⟩:=wu h;rw[e,hf x a e1,y8 hf xs c e2];rfl
@[elab_as_elim] theorem HJ{h:H}{x y:V}{b:Bool}{C:V->V->Bool->Prop}(e:vf (n+1) h x y=J b)(ci:∀a c,C (.int a) (.int c) (a == c))(cb:∀a c,C (.bool a) (.bool c) (a == c))(cs:∀a c,C (.str a) (.str c) (a == c))
  (cr:∀i j b,vf (n+1) h (.ref i) (.ref j)=J b->C (.ref i) (.ref j) b):C x y b:=by
 cases x<;>cases y<;>first | exact cr _ _ _ e | exact cL e▸ci _ _ | exact cL e▸cb _ _ | exact cL e▸cs _ _ | exact oJ e
theorem Ny(e:vf (n+1) h (.ref i) (.ref j)=J b):
  (∃xs ys,h[i]? =J (.list xs)/\h[j]? =J (.list ys)/\((xs.length=ys.length/\qA (vf n h) xs ys=J b)\/(xs.length≠ys.length/\b=cj)))\/
   ∃xs ys c,h[i]? =J (.tup xs)/\h[j]? =J (.tup ys)/\qA (vf n h) xs ys=J c/\b=(c&&xs.length == ys.length):=by
 ext n h i j b;have e:(match h[i]?,h[j]? with
   | some (.list xs),J (.list ys)=>if xs.length == ys.length then qA (vf n h) xs ys else J cj
   | some (.tup xs),J (.tup ys)=>match qA (vf n h) xs ys with
    | some c=>J (c&&xs.length == ys.length)
    | .none=>.none
   | _,_=>.none)=J b:=e
 cases q1:h[i]? with
 | none=>rw[q1] at e;exact oJ e
 | some o1=>
  ext o1;rw[q1] at e;cases q2:h[j]? with
  | none=>rw[q2] at e;cases o1<;>exact oJ e
  | some o2=>
   ext o2;rw[q2] at e;cases o1<;>cases o2<;>first | exact oJ e | skip
   .rename_i xs ys;refine .inl ⟨xs,ys,rfl,rfl,?_⟩;by_cases hl:xs.length=ys.length
    .exact .inl ⟨hl,(cG (beq_iff_eq.mpr hl)).symm.trans e⟩
    .exact .inr ⟨hl,(cL ((cH λz=>hl (cK z)).symm.trans e)).symm⟩
   .rename_i xs ys;dsimp only at e;cases q:qA (vf n h) xs ys with
    | none=>rw[q] at e;exact oJ e
    | some c=>rw[q] at e;exact .inr ⟨xs,ys,c,rfl,rfl,q,(cL e).symm⟩
theorem EZ:∀(n:Nat) (h:H) (x:V) (b:Bool),vf n h x x=J b->b=b9
 | 0,_,_,_,e=>oJ e
 | n+1,h,x,b,e=>HJ (C:=λx y b=>x=y->b=b9) e (λa c q=>by cases q;exact beq_self_eq_true a) (λa c q=>by cases q;exact beq_self_eq_true a) (λa c q=>by cases q;exact beq_self_eq_true a) (λi j b e q=>by
   obtain rfl:i=j:=V.ref.inj q;rcases Ny e with⟨xs,ys,h1,h2,h⟩ | ⟨xs,ys,c,h1,h2,h3,rfl⟩
   .obtain rfl:xs=ys:=O.list.inj (cL (h1.symm.trans h2));exact h.elim (λh=>y8 (EZ n _) xs b h.2) λh=>cJ rfl h.1
   .obtain rfl:xs=ys:=O.tup.inj (cL (h1.symm.trans h2));rw[y8 (EZ n _) xs c h3,beq_self_eq_true];rfl) rfl
theorem Jb:∀{xs ys:List V} {b:Bool},qA f xs ys=J b->∀(j:Nat) (x y:V),xs[j]? =J x->ys[j]? =J y->∃c,f x y=J c
 | [],_,_,_,j,x,y,h1,_=>oJ h1
 | _::_,[],_,_,j,x,y,_,h2=>oJ h2
 | x::xs,y::ys,b,h,0,u,v,h1,h2=>(wu h).elim λa z=>z.elim λc z=>⟨a,cL h1▸cL h2▸z.1⟩
 | x::xs,y::ys,b,h,j+1,u,v,h1,h2=>(wu h).elim λa z=>z.elim λc z=>Jb z.2.1 j u v h1 h2
def XN(f:V->V->Option Bool)(xs ys:List V)(j:Nat):Bool:=match xs[j]?,ys[j]? with
 | some x,J y=>(f x y).getD cj
 | _,_=>cj
theorem w7:∀{xs ys:List V} {b:Bool},qA f xs ys=J b->(cn (min xs.length ys.length)).all (XN f xs ys)=b
 | [],ys,b,h=>by rw[fc,Nat.zero_min];exact cL h
 | _::_,[],b,h=>by rw[fc,Nat.min_zero];exact cL h
 | x::xs,y::ys,b,h=>by
  obtain⟨a,c,e1,e2,rfl⟩:=wu h;rw[eB,eB,Nat.succ_min_succ,j0,List.all_cons,List.all_map];show((f x y).getD cj&&(cn (min xs.length ys.length)).all (XN f xs ys))=_;rw[w7 e2,e1];rfl
theorem M8{vs:List nr}(h:j<vs.toArray.size):vs[j]? =J vs.toArray[j]:=a7 (by rw[dM] at h;exact h)
theorem PJ(ih:∀{x y:V} {vx vy:nr} {b:Bool},VR Z x vx->VR Z y vy->vf n T x y=J b->EqAt A.in1 s vx vy b){xs ys:List V}{vs ws:List nr}{b:Bool}(m1:qX Z xs vs)(m2:qX Z ys ws)(e:qA (vf n T) xs ys=J b):
  ∀k (h1:k<vs.toArray.size) (h2:k<ws.toArray.size),EqAt A.in1 s vs.toArray[k] ws.toArray[k] (XN (vf n T) xs ys k):=λk h1 h2=>by
 have hk1:=a7 (show k<xs.length by rw[m1.length];rw[dM] at h1;exact h1);have hk2:=a7 (show k<ys.length by rw[m2.length];rw[dM] at h2;exact h2);obtain⟨c,hc⟩:=Jb e k _ _ hk1 hk2;obtain⟨v1,g1,r1⟩:=m1.get hk1;obtain⟨v2,g2,r2⟩:=m2.get hk2;rw[<- cL ((M8 h1).symm.trans g1)] at r1;rw[<- cL ((M8 h2).symm.trans g2)] at r2;have:XN (vf n T) xs ys k=c:=by unfold XN;rw[hk1,hk2];show(vf n T _ _).getD cj=c;rw[hc];rfl
 rw[this];exact ih r1 r2 hc
theorem SP{i j a d a2 d2:Nat}{b:Bool}(ih:∀{x y:V} {vx vy:nr} {b:Bool},VR Z x vx->VR Z y vy->vf n T x y=J b->EqAt A.in1 s vx vy b)(hu:A.units<cLine)(R:pA B Z T s.heap)(ha:Z[i]? =J (a,d))(ha2:Z[j]? =J (a2,d2))(e:vf (n+1) T (.ref i) (.ref j)=J b):RcAt A s (.ref a) (.ref a2) b:=by
 ext A B Z T s n i j a d a2 d2 b;rcases Ny e with⟨xs,ys,h1,h2,h⟩ | ⟨xs,ys,c,h1,h2,h3,rfl⟩
 .obtain⟨-,vs,n1,L1',m1⟩:=R.at_ i _ _ ha h1;obtain⟨-,ws,n2,L2',m2⟩:=R.at_ j _ _ ha2 h2;have L1:=lu L1';have L2:=lu L2';have s1:vs.toArray.size=xs.length:=m1.length.symm;have s2:ws.toArray.size=ys.length:=m2.length.symm;rcases h with⟨hl,h⟩ | ⟨hl,rfl⟩
  .have r:=RcAt.lists (e:=XN (vf n T) xs ys) (A:=A) L1 L2 (s1.trans (hl.trans s2.symm)) hu (PJ ih m1 m2 h);have e':=w7 h;rw[<- hl,Nat.min_self,<-s1] at e';rw[e'] at r;exact r
  .exact RcAt.lists_lengths L1 L2 (bne_iff_ne.mpr λq=>hl (s1.symm.trans (q.trans s2))) hu
 .obtain⟨-,vs,L1,m1⟩:=R.at_ i _ _ ha h1;obtain⟨-,ws,L2,m2⟩:=R.at_ j _ _ ha2 h2;have s1:vs.toArray.size=xs.length:=m1.length.symm;have s2:ws.toArray.size=ys.length:=m2.length.symm;have r:=RcAt.tuples (e:=XN (vf n T) xs ys) (A:=A) L1 L2 hu (PJ ih m1 m2 h3);have e':=w7 h3;rw[<- s1,<-s2] at e' ⊢;rw[e'] at r;exact r
theorem SI:∀(n:Nat) {A:nQ} {x y:V} {vx vy:nr} {b:Bool},A.units+n<cLine->pA B Z T s.heap->VR Z x vx->VR Z y vy->vf n T x y=J b->EqAt A s vx vy b
 | 0,_,_,_,_,_,_,_,_,_,_,e=>oJ e
 | n+1,A,x,y,vx,vy,b,hu,R,hx,hy,e=>HJ (C:=λx y b=>VR Z x vx->VR Z y vy->EqAt A s vx vy b) e
   (λa c hx hy=>by obtain⟨t,rfl⟩:=hx.int_inv;obtain⟨u,rfl⟩:=hy.int_inv;exact EqAt.int_int _ _ _ _)
   (λa c hx hy=>by rw[hx.bool_inv,hy.bool_inv];exact EqAt.bool_bool _ _)
   (λa c hx hy=>by obtain⟨t,rfl⟩:=hx.str_inv;obtain⟨u,rfl⟩:=hy.str_inv;exact EqAt.str_str _ _ _ _)
   (λi j b e hx hy=>by
    obtain⟨a,d,rfl,ha⟩:=hx.bf;obtain⟨a2,d2,rfl,ha2⟩:=hy.bf;by_cases ne:a=a2
    .subst ne;obtain rfl:i=j:=cM λq=>(R.sep i j _ _ ha ha2 q).1 rfl;rw[EZ (n+1) T (.ref i) b e];exact EqAt.same _
    .exact EqAt.of_refs ne (SP (λhx hy e=>SI n (A:=A.in1) (by show A.units+1+n<cLine;rw[fo];exact hu) R hx hy e) (ar (di _ _) hu) R ha ha2 e)) hx hy
theorem Y3(hu:A.units+n+1<cLine)(R:pA B Z T s.heap){i j a d a2 d2:Nat}{b:Bool}(ha:Z[i]? =J (a,d))(ha2:Z[j]? =J (a2,d2))(e:vf (n+1) T (.ref i) (.ref j)=J b):RcAt A s (.ref a) (.ref a2) b:=
 SP (λhx hy e=>SI n (A:=A.in1) (by show A.units+1+n<cLine;rw[fo];exact hu) R hx hy e) (ar (di _ (n+1)) hu) R ha ha2 e
end
end
section
open PySem PySem.W PyProof.Rows PySem.SeqAt
def Jz:Kp->oe
 | .eq=>.Eq | .ne=>.NotEq | .lt=>.Lt | .le=>.LtE | .gt=>.Gt | .ge=>.GtE | .is=>.Is | .isnot=>.IsNot | .isin=>.In | .b7=>.NotIn
def CR(h:Heap)(a:Addr):O->Prop
 | .list xs=>∃vs,h.IsList a vs.toArray/\qX [] xs vs
 | .tup xs=>∃vs,IsTup h a vs.toArray/\qX [] xs vs
 | _=>False
def vB(K:pN)(B:Heap):Prop:=∀a o,K.con a=J o->CR B a o
section
variable{aR:nN}{w:dw}{A:nQ}{B:Heap}{Z:tv}{T aK:H}{s:nB}{K:pN}
theorem qX.bL(m:qX [] xs vs):qX Z xs vs:=m.mono λi p e=>by cases e
theorem DH(C:vB K B)(R:pA B Z T s.heap)(hx:VR Z x vx)(e:tS K T x=J (.tup xs)):∃a vs,vx= .ref a/\IsTup s.heap a vs.toArray/\qX Z xs vs:=by
 ext B Z T s K x vx xs;cases x with
 | ref i=>
  obtain⟨a,d,rfl,g⟩:=hx.bf;obtain⟨-,vs,l,m⟩:=R.at_ i _ _ g e;exact⟨a,vs,rfl,l,m⟩
 | con a=>
  obtain rfl:=hx.bW;obtain⟨vs,⟨ob,g,l⟩,m⟩:=C a _ e;exact⟨a,vs,rfl,⟨ob,R.base _ _ g,l⟩,m.bL⟩
 | _=>cases e
theorem Ig(C:vB K B)(R:pA B Z T s.heap)(hx:VR Z x vx)(e:tS K T x=J (.list xs)):∃a vs,vx= .ref a/\s.heap.IsList a vs.toArray/\qX Z xs vs:=by
 cases x with
 | ref i=>
  obtain⟨a,d,rfl,g⟩:=hx.bf;obtain⟨-,vs,n,l,m⟩:=R.at_ i _ _ g e;exact⟨a,vs,rfl,lu l,m⟩
 | con a=>
  obtain rfl:=hx.bW;obtain⟨vs,⟨ob,g,l⟩,m⟩:=C a _ e;exact⟨a,vs,rfl,⟨ob,R.base _ _ g,l⟩,m.bL⟩
 | _=>cases e
theorem OQ(e:pQ K T x=J xs):tS K T x=J (.list xs)\/tS K T x=J (.tup xs):=by
 ext T K x xs;unfold pQ at e;cases q:tS K T x with
 | none=>rw[q] at e;exact oJ e
 | some o=>
  rw[q] at e;cases o<;>first | exact oJ e | exact .inl (cI (λxs=>J (O.list xs)) (cL e)) | exact .inr (cI (λxs=>J (O.tup xs)) (cL e))
theorem Hj(C:vB K B)(R:pA B Z T s.heap)(hx:VR Z x vx)(e:pQ K T x=J xs):∃a vs,vx= .ref a/\(s.heap.IsList a vs.toArray\/IsTup s.heap a vs.toArray)/\qX Z xs vs:=
 (OQ e).elim (λq=>(Ig C R hx q).elim λa h=>h.elim λvs h=>⟨a,vs,h.1,.inl h.2.1,h.2.2⟩) λq=>(DH C R hx q).elim λa h=>h.elim λvs h=>⟨a,vs,h.1,.inr h.2.1,h.2.2⟩
def abc:nr->V
 | .bool b=>.bool b
 | .int i _=>.int i
 | .str s _=>.str s
 | _=>.none
theorem VR.pre(hx:VR Z x v)(nx:∀a,x≠.con a):x=abc v\/∃i a d,x= .ref i/\v= .ref a/\Z[i]? =J (a,d):=by
 ext Z x v;cases x with
 | none=>rw[hx.none_inv];exact .inl rfl
 | bool b=>rw[hx.bool_inv];exact .inl rfl
 | int i=>obtain⟨t,rfl⟩:=hx.int_inv;exact .inl rfl
 | str s=>obtain⟨t,rfl⟩:=hx.str_inv;exact .inl rfl
 | ref i=>obtain⟨a,d,h⟩:=hx.bf;exact .inr ⟨i,a,d,rfl,h⟩
 | con a=>exact cJ rfl (nx a)
theorem VR.inj(R:pA B Z T s.heap)(hx:VR Z x v)(hy:VR Z y v)(nx:∀a,x≠.con a)(ny:∀a,y≠.con a):x=y:=by
 ext B Z T s x y v;rcases hx.pre nx with e | ⟨i,a,d,rfl,rfl,e1⟩<;>rcases hy.pre ny with e' | ⟨j,a',d',rfl,h,e2⟩
 .exact e.trans e'.symm
 .subst h;rw[e] at hx;exact hx.elim
 .rw[e'] at hy;exact hy.elim
 .cases h;exact cI V.ref (cM λq=>(R.sep i j _ _ e1 e2 q).1 rfl)
theorem Mp(e:vf n T x y=J b):∀a,x≠.con a:=by
 cases n with
 | zero=>exact oJ e
 | succ n=>exact HJ (C:=λx w w=>∀a,x≠.con a) e (λw w w q=>nomatch q) (λw w w q=>nomatch q) (λw w w q=>nomatch q) λw w w w w q=>nomatch q
def Td(Z:tv)(T:H)(z:V)(y:nr):Bool:=@cu (∃x,VR Z x y/\vf 4 T x z=J b9) (eW _)
theorem Xd(R:pA B Z T s.heap)(hx:VR Z x y)(e:vf 4 T x z=J c):Td Z T z y=c:=by
 unfold Td;cases c with
 | true=>exact @cC _ (eW _) ⟨x,hx,e⟩
 | false=>
  refine @cD _ (eW _) ?_;rintro⟨x',hx',e'⟩;rw[<- VR.inj R hx hx' (Mp e) (Mp e'),e] at e';exact nomatch e'
theorem Pc(h:Aa T z (x::xs)=J b):∃a c,vf 4 T x z=J a/\Aa T z xs=J c/\b=(a||c):=by
 ext T z x xs b;have h:(match vf 4 T x z,Aa T z xs with | some a,J b=>J (a||b) | _,_=>.none)=J b:=h;cases e1:vf 4 T x z with
 | none=>rw[e1] at h;exact oJ h
 | some a=>
  rw[e1] at h;cases e2:Aa T z xs with
  | none=>rw[e2] at h;exact oJ h
  | some c=>rw[e2] at h;exact⟨a,c,rfl,rfl,(cL h).symm⟩
theorem Kz(R:pA B Z T s.heap)(hu:A.units+64<cLine)(hz:VR Z z vz)(m:qX Z xs vs):∀{b:Bool},Aa T z xs=J b->
  (∀y∈vs,EqAt A.in1 s y vz (Td Z T z y))/\vs.any (Td Z T z)=b:=by
 induction m with
 | nil=>exact λe=>⟨λw h=>(nomatch h),cL e⟩
 | @cons x y xs vs hx m ih=>
  intro b e;obtain⟨a,c,e1,e2,rfl⟩:=Pc e;have i:=ih e2;have k:=Xd R hx e1;refine⟨λv hv=>?_,by rw[iT,k,i.2]⟩;rcases dS.mp hv with rfl | hv
  .rw[k];exact SI 4 (ar (by rw[dI];exact dn ⋯ _:A.units+1+4<=A.units+64) hu) R hx hz e1
  .exact i.1 v hv
@[elab_as_elim] theorem W8{f:Int->Int->Bool}{b:Bool}{C:V->V->Bool->Prop}(e:Yr x y f=J b)(c:∀a d,C (.int a) (.int d) (f a d)):C x y b:=by
 cases x<;>cases y<;>first | exact oJ e | exact cL e▸c _ _
@[elab_as_elim] theorem XQ{b:Bool}{C:V->V->Bool->Prop}(e:neV x y=J b)(ci:∀a c,C (.int a) (.int c) (a != c))(cb:∀a c,C (.bool a) (.bool c) (a != c))(cs:∀a c,C (.str a) (.str c) (a != c)):C x y b:=by
 cases x<;>cases y<;>first | exact oJ e | exact cL e▸ci _ _ | exact cL e▸cb _ _ | exact cL e▸cs _ _
theorem GR(hx:VR Z x v):(v == .none)=OG x:=by
 cases x with
 | none=>rw[hx.none_inv];rfl
 | bool b=>rw[hx.bool_inv];rfl
 | int i=>obtain⟨t,rfl⟩:=hx.int_inv;rfl
 | str s=>obtain⟨t,rfl⟩:=hx.str_inv;rfl
 | ref i=>obtain⟨a,d,rfl,h⟩:=hx.bf;rfl
 | con a=>rw[hx.bW];rfl
theorem Mz(hx:VR Z x v)(h:OG x=b9):v= .none:=cK ((GR hx).trans h)
abbrev LU(aR:nN)(w:dw)(A:nQ)(s:nB)(o:oe)(vx vy:nr)(b:Bool):Prop:=nE (model aR w) A (compareOp o vx vy) (λval s'=>val= .bool b/\s'=s) qH s
theorem QT(C:vB K B)(R:pA B Z T s.heap)(hu:A.units+64<cLine)(hx:VR Z x vx)(hy:VR Z y vy)(e:((pQ K T y).bind λys=>Aa T x ys)=J b):LU aR w A s .In vx vy b/\LU aR w A s .NotIn vx vy (!b):=
 bd e λys q e=>by
  obtain⟨a,vs,rfl,hl,m⟩:=Hj C R hy q;have i:=Kz (A:=A) R hu hx m e;have i1:∀v∈vs.toArray,EqAt A.in1 s v vx (Td Z T x v):=λv hv=>i.1 v (mi.mp hv);have i2:=(List.any_toArray (l:=vs) (p:=Td Z T x)).trans i.2;rcases hl with hl | hl
  .exact⟨in_listAt (Td Z T x) hl i1 ⟨cI lx i2,rfl⟩,notIn_listAt (Td Z T x) hl i1 ⟨cI (λb=>lx !b) i2,rfl⟩⟩
  .exact⟨in_tupleAt (Td Z T x) (show lS _ _ _ from hl) i1 ⟨cI lx i2,rfl⟩,notIn_tupleAt (Td Z T x) (show lS _ _ _ from hl) i1 ⟨cI (λb=>lx !b) i2,rfl⟩⟩
theorem Hs{f:Int->Int->Bool}(h:∀a d t u,LU aR w A s o (.int a t) (.int d u) (f a d)){x y:V}{vx vy:nr}{b:Bool}(hx:VR Z x vx)(hy:VR Z y vy)(e:Yr x y f=J b):LU aR w A s o vx vy b:=by
 revert hx hy;refine W8 e λa d hx hy=>?_;obtain⟨t,rfl⟩:=hx.int_inv;obtain⟨u,rfl⟩:=hy.int_inv;exact h a d t u
theorem RX{x y:V}{vx vy:nr}{b:Bool}(C:vB K B)(R:pA B Z T s.heap)(hu:A.units+64<cLine)(hx:VR Z x vx)(hy:VR Z y vy)(e:th K o x y T=J b):LU aR w A s (Jz o) vx vy b:=by
 ext aR w A B Z T s K o x y vx vy b;cases o with
 | eq=>
  revert hx hy;refine HJ (n:=3) (C:=λx y b=>VR Z x vx->VR Z y vy->LU aR w A s .Eq vx vy b) e (λa c hx hy=>?_) (λa c hx hy=>?_) (λa c hx hy=>?_) λi j b e hx hy=>?_
  .obtain⟨t,rfl⟩:=hx.int_inv;obtain⟨u,rfl⟩:=hy.int_inv;exact eq_int ⟨rfl,rfl⟩
  .rw[hx.bool_inv,hy.bool_inv];exact eq_bool ⟨rfl,rfl⟩
  .obtain⟨t,rfl⟩:=hx.str_inv;obtain⟨u,rfl⟩:=hy.str_inv;exact eq_str ⟨rfl,rfl⟩
  .obtain⟨a,d,rfl,ha⟩:=hx.bf;obtain⟨a2,d2,rfl,ha2⟩:=hy.bf;exact Y3 (n:=3) (ar (dn (by decide:4<=64) A.units) hu) R ha ha2 e _ _ _ _ ⟨rfl,rfl⟩
 | ne=>
  revert hx hy;refine XQ (C:=λx y b=>VR Z x vx->VR Z y vy->LU aR w A s .NotEq vx vy b) e (λa c hx hy=>?_) (λa c hx hy=>?_) λa c hx hy=>?_
  .obtain⟨t,rfl⟩:=hx.int_inv;obtain⟨u,rfl⟩:=hy.int_inv;exact ne_int ⟨rfl,rfl⟩
  .rw[hx.bool_inv,hy.bool_inv];exact ne_bool ⟨rfl,rfl⟩
  .obtain⟨t,rfl⟩:=hx.str_inv;obtain⟨u,rfl⟩:=hy.str_inv;exact ne_str ⟨rfl,rfl⟩
 | isin=>exact(QT C R hu hx hy e).1
 | b7=>exact bd e λys q e=>(dj.mp e).elim λc h=>h.2▸(QT C R hu hx hy (iC.mpr ⟨ys,q,h.1⟩)).2
 | is=>exact Sb e λh e=>by rw[Mz hy h,<-e,<-GR hx];exact is_none_gen ⟨rfl,rfl⟩
 | isnot=>exact Sb e λh e=>by rw[Mz hy h,<-e,<-GR hx];exact isnot_none_gen ⟨rfl,rfl⟩
 | lt=>exact Hs (λa d t u=>lt_int ⟨rfl,rfl⟩) hx hy e
 | le=>exact Hs (λa d t u=>le_int ⟨rfl,rfl⟩) hx hy e
 | gt=>exact Hs (λa d t u=>gt_int ⟨rfl,rfl⟩) hx hy e
 | ge=>exact Hs (λa d t u=>ge_int ⟨rfl,rfl⟩) hx hy e
theorem uo(C:vB K B)(R:pA B Z T s.heap)(hu:A.units+64<cLine)(hx:VR Z x vx)(hy:VR Z y vy)(e:th K o x y T=J b)(q:Q (.bool b) T):
  nE (model aR w) A (compareOp (Jz o) vx vy) (Bk B Z s Q) qH s:=
 nL (RX C R hu hx hy e) (λval s' h=>h.1▸h.2▸Bk.bool R q (t:=s.toks)) λz z x=>x
theorem RM(R:pA B Z T s.heap)(hx:VR Z x vx)(e:tr x=J b)(h:Q b s):nE (model aR w) A (truthy vx) Q qH s:=by
 let _:=R
 cases x with
 | none=>rw[hx.none_inv];exact truthy_none (cL e▸h)
 | bool c=>rw[hx.bool_inv];exact wpAny_truthy_bool (cL e▸h)
 | int i=>obtain⟨t,rfl⟩:=hx.int_inv;exact truthy_int ((cL e:(i != 0)=b)▸h)
 | _=>exact oJ e
end
end
section
open PySem PySem.W PyProof.Rows PySem.SeqAt
structure XF (KF:Frag):Prop where
 get:∀c n,n<26->plainGet KF (uh c) (pK n)=b9/\findIn KF (.ref (uh c)) (pK n)=J U
 has:∀c,hasDictIn KF (uh c)=b9/\findIn KF (.ref (uh c)) "__setattr__"=J (J (.builtin "object.__setattr__"))/\plainOver KF (uh c)=b9
 inj:∀n m,n<26->m<26->(pK n == pK m)=b9->n=m
section
variable{aR:nN}{w:dw}{A:nQ}{B:Heap}{Z:tv}{T aK:H}{s:nB}{K:pN}{KF:Frag}{Q:V->H->Prop}
theorem SC{i:Int}{vs:List nr}(h:0<=i)(l:i<vs.length):seqIndex? i vs.toArray.size=J i.toNat:=by
 have hneg:¬i<0:=Int.not_lt.mpr h;simp [seqIndex?,hneg,h,l]
theorem Pw{x y:V}(C:vB K B)(R:pA B Z T s.heap)(hx:VR Z x vx)(hy:VR Z y vy)(hns:∀a b c p,slice≠.Slice a b c p)(he:GQ (xf K x y T) T Q):
  nE (model aR w) A (subscriptTail value slice vx vy) (Bk B Z s Q) qH s:=by
 obtain⟨v,e,q⟩:=v8 he;clear he;obtain⟨i,xs,rfl,q1,h,e⟩:=Gj e;obtain⟨u,rfl⟩:=hy.int_inv;obtain⟨a,vs,rfl,hl,m⟩:=Hj C R hx q1;obtain⟨val,g,r⟩:=m.get e;have hlt:i<vs.length:=(jX h.1).mp (f0 g);have tail:∀{id af:String},s.TypeIs (.ref a) af->typeLookup (.type af) "__getitem__"=pure (J (.builtin id))->nE (model aR w) A (getItem (.ref a) (.int i u)) (Bk B Z s Q) qH s->
   nE (model aR w) A (subscriptTail value slice (.ref a) (.int i u)) (Bk B Z s Q) qH s:=by
  intro id af hT hlk h;unfold subscriptTail;refine nu ?_;rw[getitemInPython_of_ne hT.not_modules];refine nu (wpAny_specialOf hT hlk ?_);have hs:subscripted slice cj (.ref a) (.int i u)=operate [.ref a,.int i u] (getItem (.ref a) (.int i u)):=by
   cases slice<;>first | rfl | exact cJ rfl (hns _ _ _ _)
  have fin:nE (model aR w) A (subscripted slice cj (.ref a) (.int i u)) (λr s₃=>nE (model aR w) A (letTemporaryGo value (.ref a) r >>= λz=>pure r) (Bk B Z s Q) qH s₃) qH s:=by
   rw[hs];exact wpAny_operating (nL h (λr s₃ h₃=>nu (wpAny_letTemporaryGo (nJ h₃))) λz z x=>x)
  first
   | exact nJ (nu fin)
   | exact nu (nJ (nu fin))
   | exact nu fin
 have fin:Bk B Z s Q val s:=Bk.now q R r (t:=s.toks) (d:=s.drawn);have g':vs.toArray[i.toNat]? =J val:=(gW ..).trans g;have h63:i<2 ^ 63:=gP h.2 ⋯;rcases hl with hl | hl
 .exact tail hl.typeIs slot_list_getitem.lookup (wpAny_getItem_list hl h.1 h63 g' fin)
 .refine tail hl.typeIs slot_tuple_getitem.lookup (jq (j:=i.toNat) hl (gz ⋯ h.1) h63 (SC h.1 hlt) g' fin)
theorem Nv(CL:XF KF)(hn:n<26)(m:HW Z fs es):(∀v,fs.lookup n=J v->∃val,getL (pK n) es=J (J val)/\VR Z v val)/\(getL (pK n) es).isSome=b9:=by
 ext Z KF n fs es;have rk:es.any (·.refKey)=cj:=by
  induction m with
  | nil=>rfl
  | cons l k b _ ih=>obtain⟨t,k⟩:=k;rw[iT,ih,DictEntry.refKey,k];rfl
 have key:∀{fs:List (Nat × V)} {es:List nM},HW Z fs es->∀v,fs.lookup n=J v->∃e,es.find? (·.key.isStr (pK n))=J e/\VR Z v e.val:=by
  intro fs es m
  induction m with
  | nil=>intro v h;cases h
  | @cons p v e fs es l k b _ ih=>
   intro u h;obtain⟨t,k⟩:=k;by_cases q:n=p
   .subst q;rw[d9,beq_self_eq_true] at h;cases h;refine⟨e,?_,b⟩;rw[mH,k];simp [Value.isStr]
   .have qb:(n == p)=cj:=by simpa using q
    rw[d9,qb] at h;obtain⟨e',h1,h2⟩:=ih u h;refine⟨e',?_,h2⟩;rw[mH];have:e.key.isStr (pK n)=cj:=by
     rw[k];show(pK p == pK n)=cj;cases z:(pK p == pK n) with
     | false=>rfl
     | true=>exact cJ (CL.inj p n l hn z).symm q
    rw[this];exact h1
 constructor
 .intro v h;obtain⟨e,h1,h2⟩:=key m v h;exact⟨e.val,by unfold getL;rw[h1],h2⟩
 .unfold getL;cases es.find? (·.key.isStr (pK n)) with
  | some e=>rfl
  | none=>simp [rk]
theorem Od(x:VR Z v val):handedIn val=b9:=by cases v<;>cases val<;>first | exact x.elim | rfl
theorem Mx(R:pA B Z T s.heap)(hx:VR Z (.ref i) x)(e:T[i]? =J (.inst c fs)):
  ∃a d es n,x= .ref a/\Z[i]? =J (a,d)/\a≠d/\InstAt s.heap a ⟨.ref (uh c),J d,.plain,#[]⟩ (uh c) (J (dictOf es n))/\s.heap.get? d=J (dictOf es n)/\HW Z fs es:=by
 ext B Z T s i c fs x;obtain⟨a,d,rfl,g⟩:=hx.bf;ext a d;obtain⟨ne,g1,es,n,g2,m⟩:=R.at_ i _ _ g e;exact⟨a,d,es,n,rfl,g,ne,⟨g1,rfl,rfl,g2⟩,g2,m⟩
theorem Fh(CL:XF KF)(KI:KF.In B)(R:pA B Z T s.heap)(hn:n<26)(hx:VR Z x vx)(he:GQ (w9 x n T) T Q):
  nE (model aR w) A (getAttr vx (pK n) ex) (Bk B Z s Q) qH s:=by
 obtain⟨v,e,q⟩:=v8 he;refine Bm e λi hi e1=>S7 e1 λc fs q1 e2=>?_;subst hi;obtain⟨a,d,es,k,rfl,g,ne,I,gd,m⟩:=Mx R hx q1;obtain⟨val,h1,h2⟩:=(Nv CL hn m).1 v e2;have cg:=CL.get c n hn;exact get_value (KI.keeps R.base) I (plainGet_of cg.1).1 (findObj_own (CL.has c).1 cg.2 rfl (by rw[lookIn_dict];exact h1)) (Od h2) (Bk.now q R h2 (d:=s.drawn))
theorem PY{ox:Obj}{es:List nM}{n:Nat}{name:Str}{v:nr}{Q:Unit->nB->Prop}{E:nr->nB->Prop}(X:KF.In s.heap)(I:InstAt s.heap x ox C (J (dictOf es n)))(hd:ox.dict=J dx)(hs:findIn KF (.ref C) "__setattr__"=J (J (.builtin "object.__setattr__")))(hp:plainOver KF C=b9)(ht:takerIn KF C name=J U)(hh:hasDictIn KF C=b9)(hl:(getL name es).isSome=b9)(hz:(putL name (gG w.params name) (.str name (s.toks+1)) v es).length<=1000)(D:s.heap.get? dx=J (dictOf es n))(h:∀h',h'.get? dx=J (dictOf (putL name (gG w.params name) (.str name (s.toks+1)) v es) (putN name es n))->lR dx s.heap h'->Q () {s with heap:=h',toks:=s.toks+2}):
  nE (model aR w) A (setAttr (.ref x) name v) Q E s:=by
 ext aR w A s KF x C dx ox es n name v Q E;refine set_plain X I hs ?_;refine osa_open (s:={s with toks:=s.toks+1}) X I hp ht λb=>?_;ext b;obtain⟨cd,hc,hd'⟩:=any_some hh;obtain⟨hx,hcl,hn,-⟩:=I;obtain⟨oc,odi,oda,osl⟩:=ox;dsimp only at hcl hd;subst hcl hd;have e:=putName_dict name (gG w.params name) (.str name (s.toks+1)) v es n;have D':(s.heap.update dx (Obj.putName name (gG w.params name) (.str name (s.toks+1)) v)).get? dx=J (dictOf (putL name (gG w.params name) (.str name (s.toks+1)) v es) (putN name es n)):=by
  rw[<- e];exact Heap.get?_update_self _ D (by rw[e];rfl)
 refine nu (nJ (nu (nu (wpAny_loadPart hx (nu (looks_clsIn X hc _ _ _ _ (λ_ _ e=>e) ?_))))));rw[hd'];refine nJ (a:=J dx) (nu (nJ (nu ?_)));unfold nsSet;refine nu (nu (wpAny_askSetting (nJ (nu (wpAny_mkText (nu (wpAny_loadPart D ?_)))))));dsimp only;have hl':(lookIn name (dictOf es n)).isSome=b9:=by rw[lookIn_dict];exact hl
 unfold lookIn at hl';dsimp only at hl';have c:(!es.toArray.any (·.key.isStr name)&&es.toArray.any (·.refKey))=cj:=by
  rw[<- mj,<-mj];split at hl'
  .rename_i en he;rw[ez.mpr ⟨en,List.mem_of_find?_eq_some he,List.find?_some he⟩];rfl
  .split at hl'
   .cases hl'
   .rename_i z;rw[iR] at z;rw[z,fZ]
 rw[aRefKeyMayBeTheName_at,c];refine wpAny_updatePart D ?_;refine nu (wpAny_lookBehind D' (pastItsLine_dict (by rw[dM,sizeLine_eq];lia)) ?_);exact nJ (h _ D' (gE ..))
theorem SD(CL:XF KF)(hn:n<26)(hv:VR Z v val)(m:HW Z fs es):HW Z (ER n v fs) (putL (pK n) hsh (.str (pK n) t) val es):=by
 induction m with
 | nil=>exact .cons hn ⟨t,rfl⟩ hv .nil
 | @cons p u e fs es l k b r ih=>
  unfold ER putL;obtain⟨t',k'⟩:=k;by_cases q:p=n
  .subst q;rw[cG (beq_self_eq_true p),cG (by rw[k'];simp [Value.isStr])];exact .cons l ⟨t',k'⟩ hv r
  .have qb:(p == n)=cj:=by simpa using q
   have:e.key.isStr (pK n)=cj:=by
    rw[k'];show(pK p == pK n)=cj;cases z:(pK p == pK n) with
    | false=>rfl
    | true=>exact cJ (CL.inj p n l hn z) q
   rw[qb,this];exact .cons l ⟨t',k'⟩ b ih
theorem HW.length(m:HW Z fs es):fs.length=es.length:=by
 induction m with
 | nil=>rfl
 | cons _ _ _ _ ih=>simp [ih]
theorem BS(n:Nat)(v:V):∀fs:List (Nat × V),(ER n v fs).length<=fs.length+1
 | []=>da _
 | (m,u)::r=>by
  unfold ER;split
  .simp
  .have:=BS n v r;simp only[eB];lia
theorem yi{vx val:nr}{n:Nat}{P:H->Prop}(CL:XF KF)(KI:KF.In B)(R:pA B Z T s.heap)(hn:n<26)(hx:VR Z x vx)(hv:VR Z v val)(he:PH (rW x n v T) P):
  nE (model aR w) A (setAttr vx (pK n) val) (λz s'=>Bk B Z s (λz T=>P T) .none s') qH s:=by
 obtain⟨aK,e,q⟩:=MA he;refine Bm e λi hi e1=>S7 e1 λc fs q1 e2=>Sb e2 λhl e3=>?_;subst hi e3;obtain⟨a,d,es,k,rfl,g,ne,I,gd,m⟩:=Mx R hx q1;have cg:=CL.get c n hn;have ch:=CL.has c;have m2:=λt=>SD CL hn hv (hsh:=gG w.params (pK n)) (t:=t) m;exact PY (KI.keeps R.base) I rfl ch.2.1 ch.2.2 (by unfold takerIn;rw[cg.2];rfl) ch.1 (Nv CL hn m).2 (by rw[<- (m2 _).length];exact cS (BS n v fs) (cS (Nat.succ_le_of_lt hl) (by decide:100<=1000))) gd λh' g' sb=>
  ⟨.none,_,q,Z,.refl _ _,R.put g (.inr rfl) sb.extBut ⟨ne,(sb.2 a ne).trans I.at_,_,_,g',m2 _⟩,.put g (.inr rfl) sb.extBut,trivial,rfl,rfl⟩
theorem Pj{items:Array nr}{n:Nat}{k:Int}{t:Tok}{v:nr}{Q:Unit->nB->Prop}{E:nr->nB->Prop}(g:IsL s.heap l items n)(h0:0<=k)(hfit:k<2 ^ 63)(hn:k<items.size)(fin:∀h',IsL h' l (items.setIfInBounds k.toNat v) n->lR l s.heap h'->Q () {s with heap:=h'}):nE (model aR w) A (setItem (.ref l) (.int k t) v) Q E s:=by
 ext aR w A s l items n k t v Q E;have G:=lu g;have ai:IsL (s.heap.update l (mX (·.setIfInBounds k.toNat v))) l (items.setIfInBounds k.toNat v) n:=by
  have u:=ly g (·.setIfInBounds k.toNat v);simpa using u
 unfold setItem
 try with_reducible refine nR ?_
 first | refine nu (nJ ?_) | skip
 refine nu (wpAny_sequenceKey G.typeIs ⋯ ?_);refine nu (wpAny_callSpecial?_slot (name:=bb "__setitem__") G.typeIs slot_list_setitem ?_);refine n3 slot_list_setitem G.typeIs entry_list_setitem ?_ (args_list_setitem _ _ _);have q:=fin _ ai (gE ..);show nE _ _ (Builtin.List.listSubscript? (.int k t) >>= _) _ _ s;refine nu (wpAny_listSubscript_int (fitsIndex_of h0 hfit) ?_);clear hfit;obtain⟨j,rfl⟩:=iD h0;ext j;have hx:items[j]? =J items[j]:=Array.getElem?_eq_getElem (by lia);show nE _ _ ((seqItemAt l j >>= λr=>pure (r.map (j,·))) >>= _) _ _ s;refine nu (nu (wpAny_seqItemAt g rfl (nJ ?_)));rw[hx];show nE _ _ (setSeqItemAt l j v >>= _) _ _ s;refine nu (wpAny_setSeqItemAt g rfl ?_)
 first
  | exact nu (nJ (nJ ⟨.none,rfl,nJ q⟩))
  | exact nJ ⟨.none,rfl,nJ q⟩
theorem ye{vx vy val:nr}{P:H->Prop}(R:pA B Z T s.heap)(hx:VR Z x vx)(hy:VR Z y vy)(hv:VR Z v val)(he:PH (pZ x y v T) P):
  nE (model aR w) A (setItem vx vy val) (λz s'=>Bk B Z s (λz T=>P T) .none s') qH s:=by
 obtain⟨aK,e,q⟩:=MA he;refine Bm e λi hi e1=>KJ e1 λk hk e2=>E7 e2 λxs q1 e3=>Sb e3 λl e4=>?_;subst hi hk e4;obtain⟨a,vs,n,rfl,g,l',m⟩:=uj R hx q1;obtain⟨u,rfl⟩:=hy.int_inv;refine Pj l' l.1 (gP l.2.1 ⋯) ((jX l.1).mp (by rw[dM,<-m.length];exact l.2.2)) λh' l' sb=>
  ⟨.none,_,q,Z,.refl _ _,R.put g (.inl rfl) sb.extBut ⟨rfl,vs.set k.toNat val,n,?_,m.set hv _⟩,.put g (.inl rfl) sb.extBut,trivial,rfl,rfl⟩
 have:(vs.toArray.setIfInBounds k.toNat val)=(vs.set k.toNat val).toArray:=by simp
 rw[<- this];exact l'
end
end
section
open PySem PySem.W PyProof.Rows PySem.SeqAt
theorem Wd:isSeqSlot (J (.builtin "list.__iadd__"))=b9:=by decide +kernel
section
variable{aR:nN}{w:dw}{A:nQ}{B:Heap}{Z:tv}{T aK:H}{s:nB}{K:pN}{KF:Frag}{Q:V->H->Prop}
theorem Eg(R:pA B Z T s.heap)(g:Z[i]? =J (a,a))(sb:gK a s.heap h')(u:IsL h' a arr n)(e:arr=ws.toArray)(m:qX Z ys ws)
  (hv:VR Z v val) (q:Q v (T.set i (.list ys))):Bk B Z s Q val {s with heap:=h',toks:=t}:=by
 subst e;exact⟨v,_,q,Z,.refl _ _,R.put g (.inl rfl) sb ⟨rfl,ws,n,u,m⟩,.put g (.inl rfl) sb,hv,rfl,rfl⟩
theorem NY{items items2:Array nr}{n n2:Nat}{Q:nr->nB->Prop}{E:nr->nB->Prop}(hl:IsL s.heap l items n)(hb:IsL s.heap b items2 n2)(hz:items.size+items2.size<=1000)(h:Q (.ref l) {s with heap:=s.heap.update l (mX λx=>x++items2)}):nE (model aR w) A (inplaceOp .Add (.ref l) (.ref b)) Q E s:=by
 ext aR w A s l b items items2 n n2 Q E;have af:s.TypeIs (.ref l) "list":=⟨_,hl,rfl⟩
 have T2:s.TypeIs (.ref b) "list":=⟨_,hb,rfl⟩
 have hz':=ui;have look:=F.slot_list_iadd.lookup;unfold inplaceOp;refine nR (nu (wpAny_typeOf af (nu (wpAny_of_eq (a:=cj) ?_ ?_))))
 .unfold fillsInplaceSlot;show(typeLookup (.type "list") (dunderI "add") >>= λfi=>pure (fi.isSome&& !isSeqSlot fi))=pure cj;rw[look];show(pure (Option.isSome (J (Value.builtin "list.__iadd__"))&& !isSeqSlot (J (.builtin "list.__iadd__"))):Sem Bool)=pure cj;rw[Wd];rfl
 .show nE (model aR w) A (if cj=b9 then _ else _) Q E s;rw[cH dd];refine nu (wpAny_binaryOp1_none (nm:="add") af T2 noFill_list_add ?_);refine nu (wpAny_of_eq (PySem.seqSlot_of look Wd) (nu (wpAny_rule ?_)));refine n8 F.slot_list_iadd af F.entry_list_iadd (F.args_list_iadd_2 _ _) (AutoSeq1.list___iadd___list_list_0 l items n b items2 n2 ?_ (by lia) (by lia)) ⟨hl,hb,h⟩;have:iu (items.size+items2.size)=cj:=by
   unfold iu;have h1:¬(items.size+items2.size>sizeLine):=by lia
   have h2:¬(2 ^ 63<=items.size+items2.size):=by lia
   simp only[sizeLine_eq] at*;simp;lia
  rw[this];simp
theorem Uv(e:tj (Cf o (.int a) (.int b) T) Q)(R:pA B Z T s.heap):nE (model aR w) A (inplaceOp (YB o) (.int a t) (.int b u)) (Bk B Z s Q) qH s:=by
 cases o with
 | add=>exact PySem.P.iadd_int (Bk.int R e)
 | sub=>exact PySem.P.isub_int (Bk.int R e)
 | mul=>exact have e:=sW e;PySem.P.imul_int (Bk.int R e.2) (VH (dc.mp e.1).1 (dc.mp e.1).2)
 | div=>
  have e:=sW e;have l:=dc.mp e.1;exact ifloordiv_int (jZ (cy l.1)) (Bk.int R e.2) (.inl (GK (cy l.1) (cy l.2)))
 | mod=>exact have e:=sW e;imod_int (jZ e.1) (Bk.int R e.2)
 | shl=>
  have e:=sW e;have l:=dc.mp e.1;have l2:=dc.mp l.1;refine ilshift_int (cy l2.1) ?_ (Bk.int R e.2);have h64:jd a<=64:=intBits_le_64 (by have:=xk l.2;lia) (by have:=xk l.2;lia);have:=cy l2.2;lia
 | shr=>exact have e:=sW e;irshift_int e.1 (Bk.int R e.2)
 | band=>exact iand_int (Bk.int R e)
 | bor=>exact ior_int (Bk.int R e)
 | bxor=>exact ixor_int (Bk.int R e)
@[elab_as_elim] theorem Xz{x y:V}{C:V->V->Prop}(e:tj (Cf o x y T) Q)(ci:∀a b,tj (Cf o (.int a) (.int b) T) Q->C (.int a) (.int b))(cr:∀a b,tj (Cf o (.ref a) (.ref b) T) Q->C (.ref a) (.ref b)):C x y:=by
 cases x<;>cases y<;>first | exact ci _ _ e | exact cr _ _ e | exact e.elim
theorem AT{x y:V}{vx vy:nr}(he:tj (Cf o x y T) Q)(R:pA B Z T s.heap)(hx:VR Z x vx)(hy:VR Z y vy):
  nE (model aR w) A (inplaceOp (YB o) vx vy) (Bk B Z s Q) qH s:=by
 revert hx hy;refine Xz he (λa b e hx hy=>?_) λa b e hx hy=>?_
 .obtain⟨t,rfl⟩:=hx.int_inv;obtain⟨u,rfl⟩:=hy.int_inv;exact Uv e R
 .obtain⟨xs,ys,rfl,q1,q2,hz,e⟩:=Gv (o:=o) (r:=T[a]?) (q:=T[b]?) (F:=λxs ys=>(V.ref a,T.set a (O.list (xs++ys)))) e;obtain⟨c,vs,n,rfl,g1,l1,m1⟩:=uj R hx q1;obtain⟨d,ws,n2,rfl,g2,l2,m2⟩:=uj R hy q2;refine NY l1 l2 (by rw[dM,dM,<-m1.length,<-m2.length];exact hz) ?_;exact Eg R g1 (gE ..).extBut (ly l1 (λx=>x++ws.toArray)) (je vs ws) (m1.append m2) (show VR Z (.ref a) (.ref c) from⟨c,g1⟩) e (t:=s.toks)
theorem Of(R:pA B Z T s.heap)(g:Z[i]? =J (a,a))(l:IsL s.heap a vs.toArray n)(m:qX Z xs vs)(hy:VR Z y val)(q:Q .none (T.set i (.list (xs++[y])))):
  Bk B Z s Q .none {s with heap:=s.heap.update a (mX λxs=>xs.push val)}:=by
 exact Eg R g (gE ..).extBut (ly l (λx=>x.push val)) (by simp) (m.append (.cons hy .nil)) (show VR Z .none .none from trivial) q (t:=s.toks)
theorem zj{x y:V}{vx vy:nr}{pos:Pos}(he:tj (pu x y T) Q)(R:pA B Z T s.heap)(hx:VR Z x vx)(hy:VR Z y vy):
  nE (model aR w) A (call (.builtin "list.append") [vx,vy]) (Bk B Z s Q) qH s:=by
 obtain⟨i,xs,rfl,q1,hl,q⟩:=LR he;obtain⟨a,vs,n,rfl,g,l,m⟩:=uj R hx q1;have hz:=ui;have hlen:=m.length;exact n8 lA ⟨_,l,rfl⟩ F.entry_list_append (F.args_list_append_2 _ _) (list_append a vs.toArray n vy (by simp only[dM];lia)) ⟨l,Of R g l m hy q⟩
theorem PX{vs:List nr}(h:vs.getLast? =J v):vs.toArray[vs.toArray.size - 1]? =J v:=by
 simp only[dM,gW];rw[fG] at h;exact h
theorem qX.last(m:qX Z xs vs)(h:xs.getLast? =J x):∃v,vs.getLast? =J v/\VR Z x v:=by
 rw[fG] at h;obtain⟨v,g,r⟩:=m.get h;refine⟨v,?_,r⟩;rw[fG,<-m.length];exact g
theorem qX.dropLast(m:qX Z xs vs):qX Z xs.dropLast vs.dropLast:=by
 rw[iP,iP,<-m.length];exact m.take _
theorem Lr{vs:List nr}(hp:0<vs.length):(λx:Array nr=>x.eraseIdxIfInBounds (vs.toArray.size - 1)) vs.toArray=vs.dropLast.toArray:=by
 have l:=gL hp Nat.zero_lt_one;show jD vs.toArray (vs.length - 1)=_;rw[jD,dif_pos (show vs.length - 1<vs.toArray.size from l),List.eraseIdx_toArray,List.eraseIdx_eq_take_drop_succ,iP,eP hp,List.drop_length,cP]
theorem N0{x:V}(he:tj (CV x T) Q)(R:pA B Z T s.heap)(hx:VR Z x vx):
  (∃a vs n,vx= .ref a/\IsL s.heap a vs n)/\nE (model aR w) A (callWith pos (.builtin "list.pop") [vx] [] []) (Bk B Z s Q) qH s:=by
 ext aR w A B Z T s Q x vx pos;obtain⟨v,aK,e,q⟩:=CU he;refine Bm e λi hi e1=>E7 e1 λxs q1 e2=>bd e2 λy q2 e3=>Sb e3 λhl e4=>?_;cases (e4);subst hi;obtain⟨a,vs,n,rfl,g,l,m⟩:=uj R hx q1;obtain⟨val,h1,h2⟩:=m.last q2;have hp:0<vs.length:=List.length_pos_iff.mpr λz=>by subst z;exact oJ h1
 refine⟨⟨a,_,n,rfl,l⟩,P.pop_list l (PX h1) ?_ (vq (by rw[dM,<-m.length];exact hl))⟩;exact Eg R g (gE ..).extBut (ly l (λx=>x.eraseIdxIfInBounds (vs.toArray.size - 1))) (Lr hp) m.dropLast h2 q (t:=s.toks)
end
end
section
open PySem PySem.W PyProof.Rows PySem.SeqAt
section
variable{aR:nN}{w:dw}{A:nQ}{B:Heap}{Z:tv}{T aK:H}{s:nB}{K:pN}{KF:Frag}{Q:V->H->Prop}
theorem OV(C:vB K B)(he:GQ (IT K x T) T Q)(R:pA B Z T s.heap)(hx:VR Z x vx):nE (model aR w) A (call (.builtin "len") [vx]) (Bk B Z s Q) qH s:=by
 obtain⟨v,e,q⟩:=v8 he;refine bd e λxs q1 e1=>Sb e1 λhl e2=>?_;subst e2;obtain⟨a,vs,rfl,hs,m⟩:=Hj C R hx q1;have z:(vs.toArray.size:Int)=xs.length:=cI Nat.cast m.length.symm;have f:(vs.toArray.size:Int)<2 ^ 63:=z▸gM (gx.mpr hl) ⋯;rcases hs with hs | hs
 .exact len_list hs f (z▸Bk.int R q)
 .exact len_tuple hs f (z▸Bk.int R q)
theorem NV(he:GQ (VI x) T Q)(R:pA B Z T s.heap)(hx:VR Z x vx):nE (model aR w) A (call (.builtin "abs") [vx]) (Bk B Z s Q) qH s:=by
 cases x with
 | int i=>
  obtain⟨t,rfl⟩:=hx.int_inv;exact call_abs_int λu tk=>Bk.int R he
 | _=>exact he.elim
theorem OR.newRng(h:Heap):OR (Z++[(h.objs.size,h.objs.size)]) (h.push {cls:=.type "range",data:=.fields #[.int a t,.int b u,.int c v]}) h.objs.size h.objs.size (.aT a b c):=
 ⟨rfl,t,u,v,IsRange.new ..⟩
theorem Se(h:yP a=b9):-1000000<a/\a<1000000:=by
 unfold yP at h;simpa using h
theorem IM(he:tj (te xs T) Q)(R:pA B Z T s.heap)(m:qX Z xs vs):nE (model aR w) A (call (.type "range") vs) (Bk B Z s Q) qH s:=by
 ext aR w A B Z T s Q xs vs;revert m;refine QE (C:=λxs=>qX Z xs vs->nE (model aR w) A (call (.type "range") vs) (Bk B Z s Q) qH s) he (λb q m=>?_) (λa b q m=>?_) λa b c hc q m=>?_
 .obtain _ | ⟨h1,m⟩:=m;cases m;obtain⟨t,rfl⟩:=h1.int_inv;exact call_range_1 (Bk.new1 R (OR.newRng _) q)
 .obtain _ | ⟨h1,m⟩:=m;obtain _ | ⟨h2,m⟩:=m;cases m;obtain⟨t,rfl⟩:=h1.int_inv;obtain⟨u,rfl⟩:=h2.int_inv;exact call_range_2 (Bk.new1 R (OR.newRng _) q)
 ext a b c
 .obtain _ | ⟨h1,m⟩:=m;obtain _ | ⟨h2,m⟩:=m;obtain _ | ⟨h3,m⟩:=m;cases m;obtain⟨t,rfl⟩:=h1.int_inv;obtain⟨u,rfl⟩:=h2.int_inv;obtain⟨u',rfl⟩:=h3.int_inv;have z:c≠0/\c.natAbs<1000:=by rcases hc with(rfl | rfl) | rfl<;>decide
  exact call_range_3 z.1 (Bk.new1 R (OR.newRng _) q) (.inl (PyProof.noPylong_small (by have:=z.2;lia)))
theorem U0(m:qX Z xs vs)(e:uK xs=J ns):IntsAre vs ns:=by
 induction m generalizing ns with
 | nil=>cases e;exact .nil
 | @cons x y xs vs h m ih=>
  cases x with
  | int i=>
   obtain⟨r,e1,rfl⟩:=dj.mp e;obtain⟨t,rfl⟩:=h.int_inv;exact .cons i t (ih e1)
  | _=>exact oJ e
theorem JI(he:GQ (Ao x y T) T Q)(R:pA B Z T s.heap)(hx:VR Z x vx)(hy:VR Z y vy):
  nE (model aR w) A (call (.builtin "list.index") [vx,vy]) (Bk B Z s Q) qH s:=by
 obtain⟨v,e,q⟩:=v8 he;refine Bm e λi hi e1=>KJ e1 λk hk e2=>E7 e2 λxs q1 e3=>bd e3 λns q2 e4=>Sb e4 λl e5=>?_;subst hi hk e5;obtain⟨a,vs,n,rfl,g,l',m⟩:=uj R hx q1;obtain⟨t,rfl⟩:=hy.int_inv;have I:=U0 m q2;have hlen:=I.length;have hj:ns.idxOf k<ns.length:=jE.mpr l.1;have hfit:((ns.idxOf k:Nat):Int)<2 ^ 63 - 1:=gP (eK.mpr (cQ hj l.2)) ⋯;refine n8 lT ⟨_,l',rfl⟩ F.entry_list_index (F.args_list_index_2 _ _)
  (MeetsSeq.list_index a vs.toArray n (.int k t) (isInt k) (λy hy=>eq_isInt k t I y (mi.mp hy)) (ns.idxOf k) (by rw[dM,hlen];exact hj) hfit ?_ ?_) ⟨l',Bk.int R q⟩
 .show isInt k vs[ns.idxOf k]=b9;rw[isInt_at k I _ (hlen▸hj) hj];exact beq_iff_eq.mpr (lB hj)
 .intro j hjs hlt;show isInt k vs[j]=cj;rw[isInt_at k I j hjs (cX hlt hj)];exact ne_of_lt_idxOf hlt _
theorem M4(hx:VR Z x vx)(e:wY x d=J n):∃o:Option Int,IsPart vx o/\((o=U/\n=d)\/o=J (n:Int)):=by
 cases x with
 | none=>obtain rfl:=hx.none_inv;exact⟨U,.none,.inl ⟨rfl,(cL e).symm⟩⟩
 | int i=>
  obtain⟨t,rfl⟩:=hx.int_inv;exact Sb e λh e=>⟨J i,.int i t,.inr (by rw[<- e,gC h])⟩
 | _=>exact oJ e
theorem Jj{l:List α}(k:Nat)(h:l.length<=k):∀n,((l.drop k).take n)=[]:=λn=>by rw[j3 h,List.take_nil]
theorem Ve{vs:List nr}{a b:Nat}:(vs.drop (min a vs.length)).take (min b vs.length - min a vs.length)=(vs.take b).drop a:=by
 rw[List.drop_take];rcases lN a vs.length with z | z
 .rw[i7 z];rcases lN b vs.length with y | y
  .rw[i7 y]
  .rw[mn y,j4 (hU jN),j4 (by rw[jN];exact kH y a)]
 .rw[mn z,Jj _ (da _),Jj _ z]
theorem UN{vs:List nr}{lo hi:Option Int}{a b:Nat}(h1:(lo=U/\a=0)\/lo=J (a:Int))(h2:(hi=U/\b=vs.length)\/hi=J (b:Int)):slicePick vs.toArray lo hi U=((vs.take b).drop a).toArray:=by
 ext vs lo hi a b;have e2:lo.elim 0 (clipAt vs.length)=min a vs.length:=by
  rcases h1 with⟨rfl,rfl⟩ | rfl
  .exact(Nat.zero_min _).symm
  .exact clipAt_nat ..
 have e3:hi.elim vs.length (clipAt vs.length)=min b vs.length:=by
  rcases h2 with⟨rfl,rfl⟩ | rfl
  .exact(Nat.min_self _).symm
  .exact clipAt_nat ..
 rw[slicePick_plain,<-Ve,dM,e2,e3]
end
end
section
open PySem PySem.W PyProof.Rows PySem.SeqAt
def Ba(h:Heap)(it:Addr)(vx:nr)(j:Nat):It->Prop
 | .list=>∃a,vx= .ref a/\h.IsListIter it a j
 | .tup=>∃a,vx= .ref a/\h.IsTupleIter it a j
 | .aT a b s=>nX h it (a+j*s) ((pI a b s:Int) - j) s
theorem Ba.at_{it:Addr}{vx:nr}{j:Nat}{k:It}(x:Ba h it vx j k)(e:∀o,h.get? it=J o->h'.get? it=J o):Ba h' it vx j k:=by
 ext h h' it vx j k;cases k with
 | list=>obtain⟨a,rfl,o,g,r⟩:=x;exact⟨a,rfl,o,e _ g,r⟩
 | tup=>obtain⟨a,rfl,o,g,r⟩:=x;exact⟨a,rfl,o,e _ g,r⟩
 | aT a b s=>exact e _ x
theorem Ba.alive(x:Ba h it vx j k):∃o,h.get? it=J o:=by
 ext h it vx j k;cases k with
 | list=>obtain⟨a,rfl,o,g,r⟩:=x;exact⟨o,g⟩
 | tup=>obtain⟨a,rfl,o,g,r⟩:=x;exact⟨o,g⟩
 | aT a b s=>exact⟨_,x⟩
theorem tn(x:Int):(if 0<x then x else 0)=(x.toNat:Int):=by split<;>lia
theorem yA{a b:Int}:(if a<b then x else y)=if 0<b - a then x else y:=by simp only[Int.sub_pos]
theorem MS{a b s:Int}(h:(s=1\/s=2)\/s=-1):Builtin.Range.rangeSize a b s=pI a b s:=by
 ext a b s;rcases h with(rfl | rfl) | rfl
 .rw[rangeSize_one,yA];exact tn _
 .show(if(2:Int)>0 then(if a<b then(b - a - 1)/2+1 else 0) else _)=((((b - a+1)/2).toNat:Nat):Int)
  rw[cG ⋯,yA];exact aA _
 .show(if(-1:Int)>0 then _ else(if b<a then(a - b - 1)/(1:Int)+1 else 0))=(((a - b).toNat:Nat):Int)
  rw[cH ⋯,Int.ediv_one,jo,yA];exact tn _
theorem DN(h1:-4000000<=x)(h2:x<=4000000):Builtin.Range.rangeFitsLong x=b9:=
 dc.mpr ⟨cC (gz ⋯ h1),cC (gM h2 ⋯)⟩
theorem QK{a b s:Int}(h:(s=1\/s=2)\/s=-1)(ha:yP a=b9)(hb:yP b=b9):kX a b s=b9:=by
 ext a b s;have h1:=Se ha;have h2:=Se hb;have fa:∀{x:Int},-1000000<x/\x<1000000->-4000000<=x/\x<=4000000:=λh=>⟨gz ⋯ (hV h.1),gz (hV h.2) ⋯⟩
 have hr:(pI a b s:Int)<=4000000:=by
  have t:∀{x:Int},x<=4000000->(x.toNat:Int)<=4000000:=λh=>gx.mpr (Int.toNat_le.mpr h);rcases h with(rfl | rfl) | rfl
  .exact t (KP h1 h2).1
  .exact t (KP h1 h2).2
  .exact t (KP h2 h1).1
 have hs:-1<=s/\s<=2:=by rcases h with(rfl | rfl) | rfl<;>decide
 unfold kX
 (rewrite [MS h,DN (fa h1).1 (fa h1).2,DN (fa h2).1 (fa h2).2,DN (gz ⋯ hs.1) (gz hs.2 ⋯),DN (gz ⋯ (dU _)) hr];try with_reducible rfl)
 refine ew.mpr (.inr ?_);split<;>exact DN (by lia) (by lia)
section
variable{aR:nN}{w:dw}{A:nQ}{B:Heap}{Z:tv}{T aK:H}{s:nB}{K:pN}{KF:Frag}
structure VZ (h:Heap) (s':nB) (it:Addr) (vx:nr) (k:It):Prop where
 fresh:h.get? it=U
 ok:Ba s'.heap it vx 0 k
 keep:∀b o,h.get? b=J o->s'.heap.get? b=J o
theorem Xc{k:It}{C:It->Prop}(e:Fm K T x=J k)(cl:∀xs,tS K T x=J (.list xs)->C .list)(ct:∀xs,tS K T x=J (.tup xs)->C .tup)(cr:∀a b c,tS K T x=J (.aT a b c)->(yP a&&yP b&&(c == 1||c == 2||c == -1))=b9->C (.aT a b c)):C k:=by
 ext T K x k C;unfold Fm at e;cases q:tS K T x with
 | none=>rw[q] at e;exact oJ e
 | some o=>
  rw[q] at e;cases o with
  | list xs=>exact cL e▸cl xs q
  | tup xs=>exact cL e▸ct xs q
  | inst _ _=>exact oJ e
  | aT a b c=>exact Sb e λh e=>e▸cr a b c q h
theorem D3{vx:nr}{k:It}(C:vB K B)(R:pA B Z T s.heap)(hx:VR Z x vx)(e:Fm K T x=J k):
  nE (model aR w) A (pyIter vx) (λval s'=>∃it,val= .ref it/\VZ s.heap s' it vx k/\s'.gens=s.gens/\s'.os=s.os) qH s:=by
 refine Xc (C:=λk=>nE (model aR w) A (pyIter vx) (λval s'=>∃it,val= .ref it/\VZ s.heap s' it vx k/\s'.gens=s.gens/\s'.os=s.os) qH s) e (λxs q=>?_) (λxs q=>?_) λa b c q h=>?_
 .obtain⟨a,vs,rfl,l,m⟩:=Ig C R hx q;exact wpAny_pyIter_list l ⟨_,rfl,⟨qM _,⟨a,rfl,_,gF _ rfl,rfl,rfl⟩,λb o e=>dB _ e⟩,rfl,rfl⟩
 .obtain⟨a,vs,rfl,l,m⟩:=DH C R hx q;exact wpAny_pyIter_tuple (show lS _ _ _ from l) ⟨_,rfl,⟨qM _,⟨a,rfl,_,gF _ rfl,rfl,rfl⟩,λb o e=>dB _ e⟩,rfl,rfl⟩
 .have l:=dc.mp h;have l2:=dc.mp l.1;have hs:(c=1\/c=2)\/c=-1:=(ew.mp l.2).imp (λh=>(ew.mp h).imp cK cK) cK;cases x with
  | ref i=>
   obtain⟨ad,d,rfl,g⟩:=hx.bf;obtain⟨-,t,u,v,r⟩:=R.at_ i _ _ g q;refine wpAny_pyIter_range r (QK hs l2.1 l2.2) ⟨_,rfl,⟨qM _,?_,λb o e=>dB _ e⟩,rfl,rfl⟩;show nX _ _ (a+((0:Nat):Int)*c) ((pI a b c:Int) - ((0:Nat):Int)) c;rw[mr,Int.zero_mul,Int.add_zero,Int.sub_zero,<-MS hs];exact gF _ rfl
  | con a=>exact(C _ _ q).elim
  | _=>exact oJ q
theorem ON{j:Nat}{p:Prop}{f:V->Prop}{C:Prop}(h:Ip (oG K .list T x j) p f)(c:∀xs,tS K T x=J (.list xs)->RB xs[j]? p f->C):C:=by
 unfold oG at h;dsimp only at h;generalize tS K T x=o at h c
 match o,h with
 | some (.list xs),h=>exact c xs rfl h
theorem Rc{j:Nat}{p:Prop}{f:V->Prop}{C:Prop}(h:Ip (oG K .tup T x j) p f)(c:∀xs,tS K T x=J (.tup xs)->RB xs[j]? p f->C):C:=by
 unfold oG at h;dsimp only at h;generalize tS K T x=o at h c
 match o,h with
 | some (.tup xs),h=>exact c xs rfl h
theorem V5{vs:List nr}{j:Nat}{f:V->Prop}{p:Prop}{C:Prop}(m:qX Z xs vs)(h:RB xs[j]? p f)(c0:vs.toArray[j]? =U->p->C)(c1:∀u uv,vs.toArray[j]? =J uv->VR Z u uv->f u->C):C:=by
 rw[gW] at c0 c1;cases e:xs[j]? with
 | none=>rw[e] at h;exact c0 (eI (m.length▸List.getElem?_eq_none_iff.mp e)) h
 | some v=>rw[e] at h;exact(m.get e).elim λval g=>c1 v val g.1 g.2 h
theorem M6{vx:nr}{k:It}{j:Nat}{it:Addr}{f:V->Prop}{G:Option nr->nB->Prop}{E:nr->nB->Prop}(hh:A.handled=U)(C:vB K B)(R:pA B Z T s.heap)(hx:VR Z x vx)(I:Ba s.heap it vx j k){p:Prop}(hw:Ip (oG K k T x j) p f)(c0:∀s',gK it s.heap s'.heap->s'.gens=s.gens->s'.os=s.os->p->G U s')(c1:∀s' u uv,gK it s.heap s'.heap->s'.gens=s.gens->s'.os=s.os->VR Z u uv->Ba s'.heap it vx (j+1) k->f u->G (J uv) s'):nE (model aR w) A (pyNext (.ref it)) G E s:=by
 cases k with
 | list=>
  obtain⟨a,rfl,I⟩:=I;exact ON hw λxs q hw=>(Ig C R hx q).elim λb h=>h.elim λvs h=>V5 h.2.2 hw
   (λe p=>wpAny_pyNext_list_end hh I (jF h.1▸h.2.1) e λh' hs=>c0 _ hs rfl rfl p) λu uv e y z=>wpAny_pyNext_list_item I (jF h.1▸h.2.1) e λh' I' hs=>c1 {s with heap:=h'} u uv hs.extBut rfl rfl y ⟨a,rfl,I'⟩ z
 | tup=>
  obtain⟨a,rfl,I⟩:=I;exact Rc hw λxs q hw=>(DH C R hx q).elim λb h=>h.elim λvs h=>V5 h.2.2 hw
   (λe p=>wpAny_pyNext_tuple_end hh I (jF h.1▸(show s.heap.IsTuple b vs.toArray from h.2.1)) e λh' hs=>c0 _ hs rfl rfl p) λu uv e y z=>wpAny_pyNext_tuple_item I (jF h.1▸(show s.heap.IsTuple b vs.toArray from h.2.1)) e λh' I' hs=>c1 {s with heap:=h'} u uv hs.extBut rfl rfl y ⟨a,rfl,I'⟩ z
 | aT a b c=>
  have I:nX s.heap it (a+j*c) ((pI a b c:Int) - j) c:=I;by_cases hj:j<pI a b c
  .have hw:f (.int (a+j*c)):=(cI (λo=>RB o p f) (cG hj)).mp hw;refine wpAny_pyNext_range_item I (Int.sub_pos.mpr (eK.mpr hj)) λh' I' hs=>c1 _ _ _ hs.extBut rfl rfl (show VR Z (.int (a+j*c)) (.int (a+j*c) s.toks) from rfl) ?_ hw;show nX h' it (a+((j+1:Nat):Int)*c) ((pI a b c:Int) - ((j+1:Nat):Int)) c;rw[Int.natCast_add,Int.add_mul,<-Int.sub_sub,<-ip,show((1:Nat):Int)=1 from rfl,Int.one_mul];exact I'
  .have hw:p:=(cI (λo=>RB o p f) (cH hj)).mp hw;exact wpAny_pyNext_range_end hh I (kG (gx.mpr (d7 hj))) λh' hs=>c0 _ hs rfl rfl hw
end
end
section
open PySem PySem.W PyProof.Rows PySem.SeqAt
set_option genCtorIdx true in
inductive GV where
 | val (v:V) | len | abs | range
def vEq:V->V->Bool
 | .int i,.int j=>i == j
 | .con a,.con b=>a == b
 | .bool a,.bool b=>a == b
 | .none,.none=>b9
 | _,_=>cj
theorem Xi(h:vEq a b=b9):a=b:=by
 cases a<;>cases b<;>first | exact(dd h).elim | rfl | exact cI V.int (cK h) | exact cI V.con (cK h) | exact cI V.bool (cK h)
def oX(a b:Str):Bool:=a.cps.toList == b.cps.toList
theorem o4(h:oX a b=b9):a=b:=
 match a,b,cK h with
 | ⟨⟨_⟩⟩,⟨⟨_⟩⟩,h=>cI (λl=>Str.mk ⟨l⟩) h
theorem wn(a:Str):oX a a=b9:=beq_self_eq_true a.cps.toList
theorem vS(a b:Str):oX a b=(a == b):=
 de.mpr ⟨λh=>beq_iff_eq.mpr (o4 h),λh=>cK h▸wn a⟩
def B9(x:Str):List (Str × nH)->Option nH
 | []=>U
 | y::r=>cond (oX x y.1) (J y.2) (B9 x r)
theorem u6(x:Str):∀l:List (Str × nH),B9 x l=l.lookup x
 | []=>rfl
 | (y,k)::r=>by
  show cond (oX x y) (J k) (B9 x r)=_;rw[vS,u6 x r,d9];cases x == y<;>rfl
def FN:nH->Bool
 | .local=>b9
 | .cell=>b9
 | _=>cj
abbrev Inn:=Option (Str × List (Str × nH))
structure Pm where
 names:List (Str × nH)
 gs:List (Option GV)
 ft:List Nat
 inner:Inn
def VX(a:nH)(o:Option nH):Bool:=cu (o=J a)
def gd{α:Type}(b:Bool)(o:Option α):Option α:=cond b o U
theorem uw(h:gd b o=J k):b=b9/\o=J k:=by
 cases b with
 | true=>exact⟨rfl,h⟩
 | false=>exact nomatch h
theorem bl(h:(a&&b)=b9):a=b9:=(dc.mp h).1
theorem br(h:(a&&b)=b9):b=b9:=(dc.mp h).2
theorem nt(h:(!a)=b9):a=cj:=dg a▸h
theorem Ak(h:(!oX a b)=b9):a≠b:=λq=>dd ((nt h).symm.trans (q▸wn a))
theorem xR(h:VX k (B9 x l)=b9):l.lookup x=J k:=(u6 x l).symm.trans (cy h)
def OM(l:List (Str × nH))(i:Nat)(x:Str)(f:nH->Bool):Option nH:=l[i]?.bind λp=>gd (oX x p.1&&f p.2) (J p.2)
theorem vr(h:OM l i x f=J k):l[i]? =J (x,k)/\f k=b9:=
 (iC.mp h).elim λp h=>⟨h.1.trans (cI J (iJ (o4 (bl (uw h.2).1)).symm (cL (uw h.2).2))),cL (uw h.2).2▸br (uw h.2).1⟩
theorem UD(h:l[i]? =J (x,k))(g:f k=b9):OM l i x f=J k:=by
 unfold OM;rw[h];show gd (oX x x&&f k) _=_;rw[wn,g];rfl
def Nd(I:Inn)(l:List (Str × nH))(i:Nat)(x:Str):Option nH:=match I with
 | none=>OM l i x FN
 | some c=>bif i == l.length then gd (oX x c.1&&VX .local (B9 x c.2)) (J .local) else gd (VX .free (B9 x c.2)&& !oX x c.1) (OM l i x λk=>cu (k= .cell))
theorem v7(h:Nd (J c) l i x=J k):
  (i=l.length/\x=c.1/\k= .local)\/(i≠l.length/\l[i]? =J (x,.cell)/\c.2.lookup x=J .free/\x≠c.1/\k= .cell):=by
 ext c l i x k;unfold Nd at h;cases q:i == l.length with
 | true=>rw[q] at h;exact .inl ⟨cK q,o4 (bl (uw h).1),(cL (uw h).2).symm⟩
 | false=>
  rw[q] at h;have g:=uw h;have p:=vr g.2;have e:k= .cell:=cy p.2;exact .inr ⟨ne_of_beq_false q,e▸p.1,xR (bl g.1),Ak (br g.1),e⟩
theorem Sp(h:Nd I l i x=J k):FN k=b9:=by
 cases I with
 | none=>exact(vr h).2
 | some c=>exact(v7 h).elim (λh=>h.2.2▸rfl) λh=>h.2.2.2.2▸rfl
def Pm.kind(P:Pm)(i:Nat)(x:Str):Option nH:=Nd P.inner P.names i x
def Op(I:Inn)(l:List (Str × nH))(gs:List (Option GV))(i:Nat)(x:Str):Option GV:=
 gd ((OM l i x λk=>cu (k= .globalImplicit)).isSome&&(match I with | none=>b9 | some c=>VX .globalImplicit (B9 x c.2))) gs[i]?.join
theorem Rl{l:List (Str × nH)}{gs:List (Option GV)}{i:Nat}{x:Str}{g:GV}(h:Op I l gs i x=J g):l[i]? =J (x,.globalImplicit)/\gs[i]? =J (J g):=by
 ext I l gs i x g;have h:=uw h;obtain⟨k,hk⟩:=eH.mp (bl h.1);have p:=vr hk;exact⟨(cy p.2:k= .globalImplicit)▸p.1,Option.join_eq_some_iff.mp h.2⟩
theorem O5{l:List (Str × nH)}{gs:List (Option GV)}{i:Nat}{x:Str}{g:GV}(h:Op (J c) l gs i x=J g):Op U l gs i x=J g/\c.2.lookup x=J .globalImplicit:=by
 have p:=uw h;refine⟨?_,xR (br p.1)⟩;unfold Op;rw[bl p.1];exact p.2
def Pm.glo(P:Pm)(i:Nat)(x:Str):Option GV:=Op P.inner P.names P.gs i x
def Pm.nm(P:Pm):List Str:=match P.inner with
 | none=>P.names.map (·.1)
 | some (t,_)=>P.names.map (λy=>if oX y.1 t then bb "" else y.1)++[t]
def dbg(x:Str):Bool:=oX x (bb "__debug__")
def TL(mg mb:Str->Option nr)(x:Str):GV->Prop
 | .val v=>∃val,mg x=J val/\VR [] v val
 | .len=>mg x=U/\mb x=J (.builtin "len")
 | .abs=>mg x=U/\mb x=J (.builtin "abs")
 | .range=>mg x=U/\mb x=J (.type "range")
structure BV (K:pN) (KF:Frag) (B:Heap) (mg mb:Str->Option nr):Prop where
 con:vB K B
 bV:KF.In B
 cls:XF KF
 g:B.Ns mainGlobals mg
 b:B.Ns builtinsNs mb
structure uR (KF:Frag) (mg mb:Str->Option nr) (P:Pm) (aQ:eC):Prop where
 kind:aQ.scope.kind= .function
 gl:aQ.globals=mainGlobals
 bl:aQ.builtins=builtinsNs
 ks:∀i x k,P.kind i x=J k->aQ.kindOf x=J k/\(x == ("__debug__" :Str))=cj/\P.nm[i]? =J x
 cs:∀i x,P.kind i x=J .cell->(aQ.cells.lookup x).isSome=b9
 apart:∀i x k,P.kind i x=J k->(P.inner=U\/i=P.names.length)->∀j,P.nm[j]? =J x->j=i
 gs:∀i x g,P.glo i x=J g->aQ.kindOf x=J .globalImplicit/\(x == ("__debug__" :Str))=cj/\TL mg mb x g
 ft:∀f∈P.ft,keepIn KF (.ref f)=b9
structure qD (P:Pm) (aQ:eC) (B:Heap) (Z:tv) (e:Mine.Lake.nw) (h:Heap):Prop where
 m:∃m,h.Ns aQ.locals m/\∀(i:Nat) (x:Str) (v:V),P.nm[i]? =J x->e[i]? =J (J v)->aQ.kindOf x=J .local->∃w,m x=J w/\VR Z v w
 cel:∀x c,aQ.cells.lookup x=J c->∃w,h.IsCell c w/\∀(i:Nat) (v:V),P.nm[i]? =J x->e[i]? =J (J v)->aQ.kindOf x=J .cell->∃u,w=J u/\VR Z v u
 own:BU Z aQ.locals/\B.get? aQ.locals=U
 bJ:∀x c,aQ.cells.lookup x=J c->BU Z c/\B.get? c=U/\c≠aQ.locals
 apart:∀x y c,aQ.cells.lookup x=J c->aQ.cells.lookup y=J c->x=y
section
variable{P:Pm}{aQ:eC}{B:Heap}{Z aL:tv}{e:Mine.Lake.nw}{h h':Heap}
theorem EP(n:h.Ns a m):∃o,h.get? a=J o:=let ⟨o,_,_,e,_⟩:=n;⟨o,e⟩
theorem qD.step(X:qD P aQ B Z e h)(k:vA Z h h')(x:we Z aL h):qD P aQ B aL e h':=by
 ext P aQ B Z aL e h h';obtain⟨m,n,hm⟩:=X.m;obtain⟨o,ho⟩:=EP n;refine⟨⟨m,n.at' λo e=>k _ o e X.own.1,λi y v a b c=>?_⟩,λy c hc=>?_,⟨X.own.1.ext x ho,X.own.2⟩,λy c hc=>?_,X.apart⟩
 .obtain⟨w,e1,e2⟩:=hm i y v a b c;exact⟨w,e1,e2.mono x.old⟩
 .obtain⟨w,⟨oc,hoc,hd⟩,hw⟩:=X.cel y c hc;refine⟨w,⟨oc,k _ _ hoc (X.bJ y c hc).1,hd⟩,λi v a b d=>?_⟩;obtain⟨u,e1,e2⟩:=hw i v a b d;exact⟨u,e1,e2.mono x.old⟩
 .obtain⟨w,⟨oc,hoc,hd⟩,hw⟩:=X.cel y c hc;exact⟨(X.bJ y c hc).1.ext x hoc,(X.bJ y c hc).2⟩
end
def Gs(o:Kp)(p:oe):Bool:=cu (Jz o=p)
def Xe(o:Fk)(p:oa):Bool:=cu (YB o=p)
theorem dt{i:Decidable c}{k:c->Bool}{C:Prop}(h:@dite Bool c i k (λw=>cj)=b9)(f:∀q,k q=b9->C):C:=by
 cases i with
 | isTrue q=>exact f q h
 | isFalse q=>exact(dd h).elim
def oZ{α:Type}(xs:List α)(k:α->List α->Bool):Bool:=match xs with | []=>cj | x::r=>k x r
@[elab_as_elim] theorem oh{C:List α->Prop}{xs:List α}{k:α->List α->Bool}(h:oZ xs k=b9)(f:∀x r,k x r=b9->C (x::r)):C xs:=by
 cases xs with
 | nil=>exact(dd h).elim
 | cons x r=>exact f x r h
@[elab_as_elim] theorem oR{C:List α->Prop}{xs:List α}(h:xs.isEmpty=b9)(f:C []):C xs:=by
 cases xs with
 | nil=>exact f
 | cons x r=>exact(dd h).elim
section
open PySem.Expr
variable{ex:bo}{C:bo->Prop}
def Le(ex:bo)(k:BoolOp->List bo->Pos->Bool):Bool:=if h:ex.ctorIdx=0 then BoolOp.elim ex h k else cj
@[elab_as_elim] theorem Da{k:BoolOp->List bo->Pos->Bool}(h:Le ex k=b9)(f:∀a b c,k a b c=b9->C (.BoolOp a b c)):C ex:=
 dt h λq h=>BoolOp.elim (motive_1:=λex=>∀q,BoolOp.elim (motive_1:=λw=>Bool) ex q k=b9->C ex) ex q (λa b c w h=>f a b c h) q h
def Rf(ex:bo)(k:bo->oa->bo->Bool):Bool:=if h:ex.ctorIdx=2 then BinOp.elim ex h (λa b c w=>k a b c) else cj
@[elab_as_elim] theorem Rj{k:bo->oa->bo->Bool}(h:Rf ex k=b9)(f:∀a b c d,k a b c=b9->C (.BinOp a b c d)):C ex:=
 dt h λq h=>BinOp.elim (motive_1:=λex=>∀q,BinOp.elim (motive_1:=λw=>Bool) ex q (λa b c w=>k a b c)=b9->C ex) ex q (λa b c d w h=>f a b c d h) q h
def QH(ex:bo)(k:UnaryOp->bo->Bool):Bool:=if h:ex.ctorIdx=3 then UnaryOp.elim ex h (λa b w=>k a b) else cj
@[elab_as_elim] theorem MG{k:UnaryOp->bo->Bool}(h:QH ex k=b9)(f:∀a b c,k a b=b9->C (.UnaryOp a b c)):C ex:=
 dt h λq h=>UnaryOp.elim (motive_1:=λex=>∀q,UnaryOp.elim (motive_1:=λw=>Bool) ex q (λa b w=>k a b)=b9->C ex) ex q (λa b c w h=>f a b c h) q h
def ZT(ex:bo)(k:bo->bo->bo->Bool):Bool:=if h:ex.ctorIdx=5 then IfExp.elim ex h (λa b c w=>k a b c) else cj
@[elab_as_elim] theorem VM{k:bo->bo->bo->Bool}(h:ZT ex k=b9)(f:∀a b c d,k a b c=b9->C (.IfExp a b c d)):C ex:=
 dt h λq h=>IfExp.elim (motive_1:=λex=>∀q,IfExp.elim (motive_1:=λw=>Bool) ex q (λa b c w=>k a b c)=b9->C ex) ex q (λa b c d w h=>f a b c d h) q h
def Rd(ex:bo)(k:bo->List nY->nV->Bool):Bool:=if h:ex.ctorIdx=8 then ListComp.elim ex h (λa b c w=>k a b c) else cj
@[elab_as_elim] theorem ND{k:bo->List nY->nV->Bool}(h:Rd ex k=b9)(f:∀a b c d,k a b c=b9->C (.ListComp a b c d)):C ex:=
 dt h λq h=>ListComp.elim (motive_1:=λex=>∀q,ListComp.elim (motive_1:=λw=>Bool) ex q (λa b c w=>k a b c)=b9->C ex) ex q (λa b c d w h=>f a b c d h) q h
def SG(ex:bo)(k:bo->List oe->List bo->Bool):Bool:=if h:ex.ctorIdx=15 then Compare.elim ex h (λa b c w=>k a b c) else cj
@[elab_as_elim] theorem HT{k:bo->List oe->List bo->Bool}(h:SG ex k=b9)(f:∀a b c d,k a b c=b9->C (.Compare a b c d)):C ex:=
 dt h λq h=>Compare.elim (motive_1:=λex=>∀q,Compare.elim (motive_1:=λw=>Bool) ex q (λa b c w=>k a b c)=b9->C ex) ex q (λa b c d w h=>f a b c d h) q h
def xE(ex:bo)(k:bo->List bo->List Keyword->Pos->Bool):Bool:=if h:ex.ctorIdx=16 then Call.elim ex h k else cj
@[elab_as_elim] theorem wA{k:bo->List bo->List Keyword->Pos->Bool}(h:xE ex k=b9)(f:∀a b c d,k a b c d=b9->C (.Call a b c d)):C ex:=
 dt h λq h=>Call.elim (motive_1:=λex=>∀q,Call.elim (motive_1:=λw=>Bool) ex q k=b9->C ex) ex q (λa b c d w h=>f a b c d h) q h
def Am(ex:bo)(k:Const->Bool):Bool:=if h:ex.ctorIdx=19 then Constant.elim ex h (λa w w=>k a) else cj
@[elab_as_elim] theorem zx{k:Const->Bool}(h:Am ex k=b9)(f:∀a b c,k a=b9->C (.Constant a b c)):C ex:=
 dt h λq h=>Constant.elim (motive_1:=λex=>∀q,Constant.elim (motive_1:=λw=>Bool) ex q (λa w w=>k a)=b9->C ex) ex q (λa b c w h=>f a b c h) q h
def A5(ex:bo)(k:bo->Str->Pos->Bool):Bool:=if h:ex.ctorIdx=20 then Attribute.elim ex h k else cj
@[elab_as_elim] theorem wf{k:bo->Str->Pos->Bool}(h:A5 ex k=b9)(f:∀a b c,k a b c=b9->C (.Attribute a b c)):C ex:=
 dt h λq h=>Attribute.elim (motive_1:=λex=>∀q,Attribute.elim (motive_1:=λw=>Bool) ex q k=b9->C ex) ex q (λa b c w h=>f a b c h) q h
def Nb(ex:bo)(k:bo->bo->Bool):Bool:=if h:ex.ctorIdx=21 then Subscript.elim ex h (λa b w=>k a b) else cj
@[elab_as_elim] theorem Ez{k:bo->bo->Bool}(h:Nb ex k=b9)(f:∀a b c,k a b=b9->C (.Subscript a b c)):C ex:=
 dt h λq h=>Subscript.elim (motive_1:=λex=>∀q,Subscript.elim (motive_1:=λw=>Bool) ex q (λa b w=>k a b)=b9->C ex) ex q (λa b c w h=>f a b c h) q h
def uA(ex:bo)(k:Str->Bool):Bool:=if h:ex.ctorIdx=23 then Name.elim ex h (λa w=>k a) else cj
@[elab_as_elim] theorem ry{k:Str->Bool}(h:uA ex k=b9)(f:∀a b,k a=b9->C (.Name a b)):C ex:=
 dt h λq h=>Name.elim (motive_1:=λex=>∀q,Name.elim (motive_1:=λw=>Bool) ex q (λa w=>k a)=b9->C ex) ex q (λa b w h=>f a b h) q h
def Kq(ex:bo)(k:List bo->Bool):Bool:=if h:ex.ctorIdx=24 then List.elim ex h (λa w=>k a) else cj
@[elab_as_elim] theorem NE{k:List bo->Bool}(h:Kq ex k=b9)(f:∀a b,k a=b9->C (.List a b)):C ex:=
 dt h λq h=>List.elim (motive_1:=λex=>∀q,List.elim (motive_1:=λw=>Bool) ex q (λa w=>k a)=b9->C ex) ex q (λa b w h=>f a b h) q h
def Sv(ex:bo)(k:List bo->Bool):Bool:=if h:ex.ctorIdx=25 then Tuple.elim ex h (λa w w=>k a) else cj
@[elab_as_elim] theorem Mc{k:List bo->Bool}(h:Sv ex k=b9)(f:∀a b c,k a=b9->C (.Tuple a b c)):C ex:=
 dt h λq h=>Tuple.elim (motive_1:=λex=>∀q,Tuple.elim (motive_1:=λw=>Bool) ex q (λa w w=>k a)=b9->C ex) ex q (λa b c w h=>f a b c h) q h
def NA(ex:bo)(k:Option bo->Option bo->Option bo->Bool):Bool:=if h:ex.ctorIdx=26 then Slice.elim ex h (λa b c w=>k a b c) else cj
@[elab_as_elim] theorem Rr{k:Option bo->Option bo->Option bo->Bool}(h:NA ex k=b9)(f:∀a b c d,k a b c=b9->C (.Slice a b c d)):C ex:=
 dt h λq h=>Slice.elim (motive_1:=λex=>∀q,Slice.elim (motive_1:=λw=>Bool) ex q (λa b c w=>k a b c)=b9->C ex) ex q (λa b c d w h=>f a b c d h) q h
end
def tu(o:bo):Bool:=o.ctorIdx == 20||o.ctorIdx == 21||o.ctorIdx == 23
@[elab_as_elim] theorem EJ{C:bo->Prop}(h:tu o=b9)(a:∀x p,C (.Name x p))(b:∀e n p,C (.Attribute e n p))(c:∀e s p,C (.Subscript e s p)):C o:=
 (ew.mp h).elim (λh=>(ew.mp h).elim (λh=>nf o (cK h) b) λh=>nh o (cK h) c) λh=>PySem.Expr.Name.elim o (cK h) a
def Wc(c:E):Bool:=6<=c.ctorIdx&&c.ctorIdx<=8||12<=c.ctorIdx&&c.ctorIdx<=14
def plX(x:bo):Bool:= !(x.ctorIdx == 0||x.ctorIdx == 5||x.ctorIdx == 15||QH x λo w=>cu (o= .Not))
def Mr(c:E)(x:bo):Bool:=Wc c||plX x
def vY(x:bo):Bool:= !(x.ctorIdx == 22)
def PU(c:Const)(i:Str):Bool:=if h:c.ctorIdx=5 then kL c h (oX i) else cj
@[elab_as_elim] theorem Xa{i:Str}{C:Const->Prop}(h:PU c i=b9)(f:C (.str i)):C c:=
 dt h λq h=>kL (motive:=λc=>∀q,kL (motive:=λw=>Bool) c q (oX i)=b9->C c) c q (λs w h=>o4 h▸f) q h
def NI(op:BoolOp)(y:bo)(r:List bo)(pos:Pos):bo:=match r with | []=>y | z::r=>.BoolOp op (y::z::r) pos
def Pe(f:GV->Bool):Option GV->Bool
 | some g=>f g
 | none=>cj
def GV.isV(v:V)(g:GV):Bool:=if h:g.ctorIdx=0 then GV.val.elim g h (vEq v) else cj
def GV.isB(n:Nat)(g:GV):Bool:=g.ctorIdx == n
def vwE:E->Option Bool
 | .bK=>J cj
 | .bool b=>cond b (J b9) U
 | _=>U
theorem VQ{p:Prop}(h:(U:Option Bool)=J b):p:=nomatch h
theorem Q2{c:E}{b:Bool}:vwE c=J b->c=cond b (.bool b9) .bK:=by
 cases c with
 | bK=>intro h;cases b with
  | true=>exact nomatch h
  | false=>rfl
 | bool x=>cases x with
  | true=>intro h;cases b with
   | true=>rfl
   | false=>exact nomatch h
  | false=>exact VQ
 | _=>exact VQ
def JL(c:E):Bool:=vwE c == J cj
def C9(c:E):Bool:=vwE c == J b9
theorem D2{c:E}(h:C9 c=b9):c= .bool b9:=Q2 (cK h)
theorem Kd{c:E}(h:JL c=b9):c= .bK:=Q2 (cK h)
def Lm(P:Pm)(t:Str)(sc:nV):Bool:=
 P.inner.isNone&& !dbg t&& !oX t (bb "")&&cu (sc.kind= .function)&& !sc.isGenerator&& !sc.isCoroutine&&
  sc.names.all (λy=> !oX y.1 (bb "")&& !cu (y.2= .cell)&&(!cu (y.2= .local)||(oX y.1 t||oX y.1 (bb ".0")))&&(!cu (y.2= .free)||(VX .cell (B9 y.1 P.names)&&VX .free (B9 y.1 sc.names))))&&
  P.names.all (λy=> !oX y.1 (bb ".0"))&&VX .local (B9 (bb ".0") sc.names)&&VX .local (B9 t sc.names)
def vv{α:Type}(o:Option α)(b:Bool)(k:α->Bool):Bool:=match o with | none=>b | some x=>k x
mutual
noncomputable def chk:Pm->E->bo->Bool
 | P,.bK,ex=>Am ex λc=>cu (c= .none)
 | P,.bool b,ex=>Am ex λc=>cu (c= .bool b)
 | P,.int i,ex=>Am ex λc=>cu (c= .int i)
 | P,.str i,ex=>Am ex λc=>PU c i
 | P,.loc i,ex=>uA ex λx=>(P.kind i x).isSome
 | P,.glo i v,ex=>uA ex λx=>Pe (GV.isV v) (P.glo i x)
 | P,.and a b,ex=>Le ex λo xs pos=>cu (o= .And)&&oZ xs λx ys=>oZ ys λy r=>chk P a x&&Mr a x&&chk P b (NI .And y r pos)&&Mr b (NI .And y r pos)
 | P,.or a b,ex=>Le ex λo xs pos=>cu (o= .Or)&&oZ xs λx ys=>oZ ys λy r=>chk P a x&&Mr a x&&chk P b (NI .Or y r pos)&&Mr b (NI .Or y r pos)
 | P,.not a,ex=>QH ex λo x=>cu (o= .Not)&&chk P a x&&Mr a x
 | P,.neg a,ex=>QH ex λo x=>cu (o= .USub)&&chk P a x
 | P,.inv a,ex=>QH ex λo x=>cu (o= .Invert)&&chk P a x
 | P,.bin o a b,ex=>Rf ex λx p y=>chk P a x&&Xe o p&&chk P b y
 | P,.ite c a b,ex=>ZT ex λt x y=>chk P c t&&Mr c t&&chk P a x&&Mr a x&&chk P b y&&Mr b y
 | P,.cmp a o b,ex=>SG ex λx ps ys=>oZ ps λp ps=>oZ ys λy ys=>ps.isEmpty&&ys.isEmpty&&chk P a x&&Gs o p&&chk P b y&& !behindInMarks p y
 | P,.bU a o b q c,ex=>SG ex λx ps ys=>oZ ps λp ps=>oZ ps λp' ps=>oZ ys λy ys=>oZ ys λz ys=>ps.isEmpty&&ys.isEmpty&&chk P a x&&Gs o p&&chk P b y&&Gs q p'&&chk P c z&& !lastMarks [p,p'] [y,z]
 | P,.list es,ex=>Kq ex (IA P es)
 | P,.tup es,ex=>Sv ex (IA P es)
 | P,.rep es n,ex=>Rf ex λx p y=>Kq x (IA P es)&&cu (p= .Mult)&&chk P n y
 | P,.comp elt i iter test,ex=>Rd ex λx gs sc=>oZ gs λg gs=>gs.isEmpty&&uA g.target λt=>g.is_async == 0&&i == P.names.length&& !(g.iter.ctorIdx == 7)&&Lm P t sc&&chk P iter g.iter&&chk {P with inner:=J (t,sc.names)} elt x&&
   ((g.ifs.isEmpty&&C9 test)||oZ g.ifs λc r=>r.isEmpty&&chk {P with inner:=J (t,sc.names)} test c&&Mr test c)
 | P,.call i f es,ex=>xE ex λo xs ks w=>ks.isEmpty&&uA o λx=>Pe (GV.isV (.con f)) (P.glo i x)&&P.ft.contains f&&IA P es xs
 | P,.len i a,ex=>xE ex λo xs ks w=>ks.isEmpty&&uA o λx=>Pe (GV.isB 1) (P.glo i x)&&oZ xs λy ys=>ys.isEmpty&&vY y&&chk P a y
 | P,.abs i a,ex=>xE ex λo xs ks w=>ks.isEmpty&&uA o λx=>Pe (GV.isB 2) (P.glo i x)&&oZ xs λy ys=>ys.isEmpty&&vY y&&chk P a y
 | P,.range i es,ex=>xE ex λo xs ks w=>ks.isEmpty&&uA o λx=>Pe (GV.isB 3) (P.glo i x)&&IA P es xs
 | P,.index a b,ex=>xE ex λo xs ks pos=>ks.isEmpty&&A5 o λo nm ap=>oZ xs λy ys=>ys.isEmpty&&oX nm (bb "index")&&chk P a o&&chk P b y&&vY y&&tu o&&(ap.endLine == pos.line)
 | P,.append a b,ex=>xE ex λo xs ks pos=>ks.isEmpty&&A5 o λo nm ap=>oZ xs λy ys=>ys.isEmpty&&oX nm (bb "append")&&chk P a o&&chk P b y&&vY y&&tu o&&(ap.endLine == pos.line)
 | P,.pop a,ex=>xE ex λo xs ks pos=>ks.isEmpty&&A5 o λo nm ap=>xs.isEmpty&&oX nm (bb "pop")&&chk P a o&&tu o&&(ap.endLine == pos.line)
 | P,.attr a n,ex=>A5 ex λo nm w=>cu (n<26)&&oX nm (pK n)&&chk P a o&&tu o
 | P,.sub a i,ex=>Nb ex λo sl=>chk P a o&&chk P i sl&& !(sl.ctorIdx == 26)
 | P,.slice a lo hi,ex=>Nb ex λo sl=>NA sl λl u st=>chk P a o&&(o.ctorIdx == 23)&&st.isNone&&vv l (JL lo) (λl=>chk P lo l)&&vv u (JL hi) λu=>chk P hi u
noncomputable def IA:Pm->Es->List bo->Bool
 | P,.nil,xs=>xs.isEmpty
 | P,.cons a es,xs=>oZ xs λx xs=>vY x&&chk P a x&&IA P es xs
end
def Id(x:bo):Bool:=x.ctorIdx == 8||x.ctorIdx == 9||x.ctorIdx == 10
def xp(x:bo):Bool:=x.ctorIdx == 24||x.ctorIdx == 25
def My(P:Pm):List Nat->List bo->Bool
 | [],xs=>xs.isEmpty
 | i::is,xs=>oZ xs λx xs=>uA x (λx=>(P.kind i x).isSome)&&My P is xs
def G9(P:Pm):af->bo->Bool
 | .loc i,ex=>uA ex λx=>(P.kind i x).isSome
 | .tup is,ex=>Sv ex (My P is)
 | .attr a n,ex=>A5 ex λo nm w=>cu (n<26)&&oX nm (pK n)&&chk P a o
 | .sub a i,ex=>Nb ex λo sl=>chk P a o&&chk P i sl&& !(sl.ctorIdx == 26)
section
open PySem.Stmt
variable{st:Stmt}{C:Stmt->Prop}
def I1(st:Stmt)(k:List bo->bo->Bool):Bool:=if h:st.ctorIdx=5 then Assign.elim st h (λa b w=>k a b) else cj
@[elab_as_elim] theorem N1{k:List bo->bo->Bool}(h:I1 st k=b9)(f:∀a b c,k a b=b9->C (.Assign a b c)):C st:=
 dt h λq h=>Assign.elim (motive_2:=λst=>∀q,Assign.elim (motive_2:=λw=>Bool) st q (λa b w=>k a b)=b9->C st) st q (λa b c w h=>f a b c h) q h
def Vw(st:Stmt)(k:bo->oa->bo->Bool):Bool:=if h:st.ctorIdx=7 then AugAssign.elim st h (λa b c w=>k a b c) else cj
@[elab_as_elim] theorem KU{k:bo->oa->bo->Bool}(h:Vw st k=b9)(f:∀a b c d,k a b c=b9->C (.AugAssign a b c d)):C st:=
 dt h λq h=>AugAssign.elim (motive_2:=λst=>∀q,AugAssign.elim (motive_2:=λw=>Bool) st q (λa b c w=>k a b c)=b9->C st) st q (λa b c d w h=>f a b c d h) q h
def Wi(st:Stmt)(k:bo->bo->List Stmt->List Stmt->Bool):Bool:=if h:st.ctorIdx=9 then For.elim st h (λa b c d w=>k a b c d) else cj
@[elab_as_elim] theorem Wr{k:bo->bo->List Stmt->List Stmt->Bool}(h:Wi st k=b9)(f:∀a b c d e,k a b c d=b9->C (.For a b c d e)):C st:=
 dt h λq h=>For.elim (motive_2:=λst=>∀q,For.elim (motive_2:=λw=>Bool) st q (λa b c d w=>k a b c d)=b9->C st) st q (λa b c d e w h=>f a b c d e h) q h
def Ms(st:Stmt)(k:bo->List Stmt->List Stmt->Bool):Bool:=if h:st.ctorIdx=11 then While.elim st h (λa b c w=>k a b c) else cj
@[elab_as_elim] theorem QJ{k:bo->List Stmt->List Stmt->Bool}(h:Ms st k=b9)(f:∀a b c d,k a b c=b9->C (.While a b c d)):C st:=
 dt h λq h=>While.elim (motive_2:=λst=>∀q,While.elim (motive_2:=λw=>Bool) st q (λa b c w=>k a b c)=b9->C st) st q (λa b c d w h=>f a b c d h) q h
def V6(st:Stmt)(k:bo->List Stmt->List Stmt->Bool):Bool:=if h:st.ctorIdx=12 then If.elim st h (λa b c w=>k a b c) else cj
@[elab_as_elim] theorem Yk{k:bo->List Stmt->List Stmt->Bool}(h:V6 st k=b9)(f:∀a b c d,k a b c=b9->C (.If a b c d)):C st:=
 dt h λq h=>If.elim (motive_2:=λst=>∀q,If.elim (motive_2:=λw=>Bool) st q (λa b c w=>k a b c)=b9->C st) st q (λa b c d w h=>f a b c d h) q h
def Rt(st:Stmt)(k:bo->Bool):Bool:=if h:st.ctorIdx=24 then Expr.elim st h (λa w=>k a) else cj
@[elab_as_elim] theorem Tf{k:bo->Bool}(h:Rt st k=b9)(f:∀a b,k a=b9->C (.Expr a b)):C st:=
 dt h λq h=>Expr.elim (motive_2:=λst=>∀q,Expr.elim (motive_2:=λw=>Bool) st q (λa w=>k a)=b9->C st) st q (λa b w h=>f a b h) q h
def Wk(st:Stmt)(k:Option bo->Bool):Bool:=if h:st.ctorIdx=3 then Return.elim st h (λa w=>k a) else cj
@[elab_as_elim] theorem WS{k:Option bo->Bool}(h:Wk st k=b9)(f:∀a b,k a=b9->C (.Return a b)):C st:=
 dt h λq h=>Return.elim (motive_2:=λst=>∀q,Return.elim (motive_2:=λw=>Bool) st q (λa w=>k a)=b9->C st) st q (λa b w h=>f a b h) q h
def VS(st:Stmt):Bool:=if h:st.ctorIdx=26 then Break.elim st h (λw=>b9) else cj
@[elab_as_elim] theorem WJ(h:VS st=b9)(f:∀a,C (.Break a)):C st:=
 dt h λq h=>Break.elim (motive_2:=λst=>∀q,Break.elim (motive_2:=λw=>Bool) st q (λw=>b9)=b9->C st) st q (λa w h=>f a) q h
end
mutual
noncomputable def Za:Pm->S->Stmt->Bool
 | P,.assign t e,st=>I1 st λtgs val=>oZ tgs λtg r=>r.isEmpty&&G9 P t tg&&chk P e val&&vY tg&&(!Id val||(t.ctorIdx == 0&&e.ctorIdx == 18))&&(!xp val|| !xp tg)
 | P,.aug t o e,st=>Vw st λtg p val=>G9 P t tg&&Xe o p&&chk P e val
 | P,.expr e,st=>Rt st λval=>chk P e val&& !Id val
 | P,.ret e,st=>Wk st λv=>vv v (JL e) (chk P e)
 | P,.ite c a b,st=>V6 st λt x y=>chk P c t&&Mr c t&&BK P a x&&BK P b y
 | P,.loop c a,st=>Ms st λt x r=>chk P c t&&Mr c t&&r.isEmpty&&BK P a x
 | P,.each t it b,st=>Wi st λtg i x r=>G9 P t tg&&chk P it i&& !(i.ctorIdx == 7)&&r.isEmpty&&BK P b x
 | P,.brk,st=>VS st
 | P,.fail,st=>b9
noncomputable def BK:Pm->Ss->List Stmt->Bool
 | P,.nil,xs=>xs.isEmpty
 | P,.cons a r,xs=>oZ xs λx xs=>Za P a x&&BK P r xs
end
end
section
open PySem PySem.W PyProof.Rows PySem.SeqAt
def uH(A:nQ)(d:Nat):Prop:=A.handled=U/\A.depth+4*d<1000/\A.units+40*d+200<cLine
def qF(aR:nN)(w:dw)(K:pN)(B:Heap)(d:Nat):Prop:=
 ∀f vs T Q,K.call f vs T Q->∀A Z s aF,uH A d->pA B Z T s.heap->qX Z vs aF->nE (model aR w) A (call (.ref f) aF) (Bk B Z s Q) qH s
def Md(B:Heap)(Z:tv)(s:nB)(af:Bool->H->Prop)(b:Bool)(s':nB):Prop:=Bk B Z s (λv T=>v= .bool b/\af b T) (.bool b) s'
def BkL(B:Heap)(Z:tv)(s:nB)(Q:List V->H->Prop)(aF:List nr)(s':nB):Prop:=∃vs aK aL,Q vs aK/\vU B Z s aK .none aL .none s'/\qX aL vs aF
theorem vi(h:∀y p,x≠.Starred y p):starEach (x::xs) aQ=(cj,eval x aQ)::starEach xs aQ:=by
 cases x<;>first | rfl | exact cJ rfl (h _ _)
theorem xq(pos:Pos)(t:Sem nr)(r:List (Bool × Sem nr)):backTo pos ((cj,t)::r)=(cj,t)::backTo pos r:=rfl
section
variable{aR:nN}{w:dw}{K:pN}{KF:Frag}{B:Heap}{mg mb:Str->Option nr}{d:Nat}
abbrev oL(aR:nN)(w:dw)(K:pN)(KF:Frag)(B:Heap)(mg mb:Str->Option nr)(d:Nat)(c:E):Prop:=
 ∀(P:Pm) (aQ:eC) (A:nQ) (ex:bo) (e:Mine.Lake.nw) (Z:tv) (T:H) (s:nB) (Q:V->H->Prop),chk P c ex=b9->uR KF mg mb P aQ->uH A d->qD P aQ B Z e s.heap->pA B Z T s.heap->ev K c e T Q->
  nE (model aR w) A (eval ex aQ) (Bk B Z s Q) qH s
abbrev uQ(aR:nN)(w:dw)(K:pN)(KF:Frag)(B:Heap)(mg mb:Str->Option nr)(d:Nat)(c:E):Prop:=
 ∀(P:Pm) (aQ:eC) (A:nQ) (ex:bo) (e:Mine.Lake.nw) (Z:tv) (T:H) (s:nB) (af:Bool->H->Prop),chk P c ex=b9->Mr c ex=b9->uR KF mg mb P aQ->uH A d->qD P aQ B Z e s.heap->pA B Z T s.heap->
  ev K c e T (λv T=>yo (tr v) λt=>af t T)->nE (model aR w) A (isTrue ex aQ (eval ex aQ)) (Md B Z s af) qH s
abbrev Hx(aR:nN)(w:dw)(K:pN)(KF:Frag)(B:Heap)(mg mb:Str->Option nr)(d:Nat)(c:Es):Prop:=
 ∀(P:Pm) (aQ:eC) (A:nQ) (xs:List bo) (pos:Pos) (e:Mine.Lake.nw) (Z:tv) (T:H) (s:nB) (Q:List V->H->Prop),IA P c xs=b9->uR KF mg mb P aQ->uH A d->qD P aQ B Z e s.heap->pA B Z T s.heap->Te K c e T Q->
  (backTo pos (starEach xs aQ)).any (·.1)=cj/\nE (model aR w) A (spliced (backTo pos (starEach xs aQ))) (BkL B Z s Q) qH s
variable{A:nQ}{aQ:eC}{P:Pm}{e:Mine.Lake.nw}{Z aL:tv}{T aK:H}{s s':nB}{Q:V->H->Prop}
theorem s7{E:nr->nB->Prop}{t:Sem nr}{k:nr->nB->Prop}(h:nE M A t (Bk B Z s Q) qH s)(c:∀v aK aL val s',Q v aK->vU B Z s aK v aL val s'->k val s'):nE M A t k E s:=
 nL h (λval s' ⟨v,aK,q,aL,p⟩=>c v aK aL val s' q p) λw w x=>x.elim
theorem Vz{E:nr->nB->Prop}{t:Sem Bool}{af:Bool->H->Prop}{k:Bool->nB->Prop}(h:nE M A t (Md B Z s af) qH s)(c:∀b aK aL s',af b aK->vU B Z s aK (.bool b) aL (.bool b) s'->k b s'):nE M A t k E s:=
 nL h (λb s' ⟨v,aK,⟨e,q⟩,aL,p⟩=>c b aK aL s' q (e▸p)) λw w x=>x.elim
theorem Yw{E:nr->nB->Prop}{t:Sem (List nr)}{Q:List V->H->Prop}{k:List nr->nB->Prop}(h:nE M A t (BkL B Z s Q) qH s)(c:∀vs aK aL aF s',Q vs aK->vU B Z s aK .none aL .none s'->qX aL vs aF->k aF s'):nE M A t k E s:=
 nL h (λaF s' ⟨vs,aK,aL,q,p,m⟩=>c vs aK aL aF s' q p m) λw w x=>x.elim
theorem up(p:vU B Z s aK v aL val s')(h:nE M A t (Bk B aL s' Q) qH s'):nE M A t (Bk B Z s Q) qH s':=nL h (λw w x=>x.of p) λw w x=>x
theorem Ys{t:Sem Bool}{af:Bool->H->Prop}{v:V}{val:nr}(p:vU B Z s aK v aL val s')(h:nE M A t (Md B aL s' af) qH s'):nE M A t (Md B Z s af) qH s':=nL h (λw w x=>Bk.of p x) λw w x=>x
theorem qD.on(X:qD P aQ B Z e s.heap)(p:vU B Z s aK v aL val s'):qD P aQ B aL e s'.heap:=X.step p.keep p.ext
theorem Md.now{af:Bool->H->Prop}(R:pA B Z T s.heap)(q:af b T):Md B Z s af b s:=Bk.bool (s:=s) (t:=s.toks) R ⟨rfl,q⟩
theorem Bk.at_(p:vU B Z s aK v aL val s')(q:Q v aK):Bk B Z s Q val s':=⟨v,aK,q,aL,p⟩
theorem BW(R:pA B Z T s.heap)(hx:VR Z v val)(h:tr v=J t)(q:k t s)(hM:M=model aR w):nE M A (truthy val) k qH s:=by
 subst hM;exact RM R hx h q
theorem Ut(h:FN k=b9):k= .local\/k= .cell:=by cases k<;>first | exact .inl rfl | exact .inr rfl | exact(dd h).elim
theorem NC(hk:P.kind i x=J k):k= .local\/k= .cell:=Ut (Sp hk)
theorem DW(S:BV K KF B mg mb)(X:uR KF mg mb P aQ)(Y:qD P aQ B Z e s.heap)(R:pA B Z T s.heap)(hk:P.kind i x=J k)(he:ev K (.loc i) e T Q):
  nE (model aR w) A (eval (.Name x pos) aQ) (Bk B Z s Q) qH s/\nE (model aR w) A (loadName aQ x) (Bk B Z s Q) qH s:=by
 obtain⟨h1,h2,h3⟩:=X.ks i x k hk;obtain⟨v,q,he⟩:=Ng (f:=λv=>Q v T) he;have fin:nE (model aR w) A (loadName aQ x) (Bk B Z s Q) qH s:=by
  rcases NC hk with rfl | rfl
  .obtain⟨m,n,hm⟩:=Y.m;obtain⟨u,e1,e2⟩:=hm i x v h3 q h1;exact wpAny_loadName_local X.kind h1 n e1 (Bk.now (s:=s) (t:=s.toks) (d:=s.drawn) he R e2)
  .obtain⟨c,hc⟩:=eH.mp (X.cs i x hk);obtain⟨u,hcell,hw⟩:=Y.cel x c hc;obtain⟨u',rfl,e2⟩:=hw i v h3 q h1;exact wpAny_loadName_cell X.kind h1 hc hcell (Bk.now (s:=s) (t:=s.toks) (d:=s.drawn) he R e2)
 exact⟨wpAny_Name fin h2,fin⟩
theorem Gu(S:BV K KF B mg mb)(X:uR KF mg mb P aQ)(R:pA B Z T s.heap)(hk:P.glo i x=J (.val v))(h:∀val,VR [] v val->k val s):
  nE (model aR w) A (eval (.Name x pos) aQ) k qH s:=by
 obtain⟨h1,h2,val,h3,h4⟩:=X.gs i x _ hk;refine jr X.kind h1 (Calls.loadGlobal_global (mg:=mg) ?_ h3 (h val h4)) h2;rw[X.gl];exact S.g.keeps R.base
theorem xn(S:BV K KF B mg mb)(X:uR KF mg mb P aQ)(R:pA B Z T s.heap)(hk:P.glo i x=J g)(hg:TL mg mb x g->mg x=U/\mb x=J v)(h:k v s):
  nE (model aR w) A (eval (.Name x pos) aQ) k qH s:=by
 obtain⟨h1,h2,h3⟩:=X.gs i x _ hk;obtain⟨h3,h4⟩:=hg h3;refine jr X.kind h1 (Calls.loadGlobal_builtin (mg:=mg) (mb:=mb) ?_ h3 ?_ h4 h) h2
 .rw[X.gl];exact S.g.keeps R.base
 .rw[X.bl];exact S.b.keeps R.base
theorem VR.bL(x:VR [] v val):VR Z v val:=x.mono λi p e=>by cases e
theorem UO{E:nr->nB->Prop}{x:bo}{pos:Pos}{whole:Sem nr}{Q:Bool->nB->Prop}(h:nE M A (isTrue x aQ (eval x aQ)) Q E s):nE M A (isTrue (.BoolOp .And [x] pos) aQ whole) Q E s:=
 isTrue_and (nL h (λc s' q=>by cases c<;>first | exact q | exact isTrue_and_nil q) λw w x=>x)
theorem W9{E:nr->nB->Prop}{x:bo}{pos:Pos}{whole:Sem nr}{Q:Bool->nB->Prop}(h:nE M A (isTrue x aQ (eval x aQ)) Q E s):nE M A (isTrue (.BoolOp .Or [x] pos) aQ whole) Q E s:=
 isTrue_or (nL h (λc s' q=>by cases c<;>first | exact q | exact isTrue_or_nil q) λw w x=>x)
end
end
section
open PySem PySem.W PyProof.Rows PySem.SeqAt
section
variable{aR:nN}{w:dw}{K:pN}{KF:Frag}{B:Heap}{mg mb:Str->Option nr}{d:Nat}
variable{A:nQ}{aQ:eC}{P:Pm}{e:Mine.Lake.nw}{Z aL:tv}{T aK:H}{s s':nB}{Q:V->H->Prop}
theorem XC{af:Bool->H->Prop}(hs:nE (model aR w) A (eval ex aQ) (Bk B Z s (λv T=>yo (tr v) λt=>af t T)) qH s)(he:isTrue ex aQ (eval ex aQ)=(do let v <-eval ex aQ;standAt ex.pos;holding [v] (truthy v))):
  nE (model aR w) A (isTrue ex aQ (eval ex aQ)) (Md B Z s af) qH s:=
 isTrue_plain (s7 hs λv aK aL val s' q p=>by
  obtain⟨t,e,q⟩:=tH q;exact BW p.rel p.val e (Bk.at_ (p.bA (show VR aL (.bool t) (.bool t) from rfl)) ⟨rfl,q⟩) rfl) he
theorem vH(h:vY x=b9):∀y p,x≠.Starred y p:=λy p q=>by subst q;exact dd h
theorem RH{x:bo}(h:(!(x.ctorIdx == 26))=b9):∀a b c p,x≠.Slice a b c p:=λa b c p q=>by subst q;exact dd h
theorem NP(he:V2 v λi=>Q (.int (-i)) T)(R:pA B Z T s.heap)(hx:VR Z v val):nE (model aR w) A (unaryOp .USub val) (Bk B Z s Q) qH s:=by
 obtain⟨i,rfl,he⟩:=H1 he;obtain⟨t,rfl⟩:=hx.int_inv;exact PyProof.Rows.neg_int (Bk.int R he)
theorem O9(he:V2 v λi=>Q (.int (dZ i)) T)(R:pA B Z T s.heap)(hx:VR Z v val):nE (model aR w) A (unaryOp .Invert val) (Bk B Z s Q) qH s:=by
 obtain⟨i,rfl,he⟩:=H1 he;obtain⟨t,rfl⟩:=hx.int_inv;exact invert_int (Bk.int R he)
theorem OI(he:yo (tr v) λt=>Q (.bool !t) T)(R:pA B Z T s.heap)(hx:VR Z v val):nE (model aR w) A (unaryOp .Not val) (Bk B Z s Q) qH s:=by
 obtain⟨t,e,q⟩:=tH he;exact not_of (BW R hx e (Bk.bool (t:=s.toks) R q) rfl)
theorem Fq(R:pA B Z T s.heap)(m:qX Z xs vs)(q:Q (.ref T.length) (T++[.list xs]))(hz:vs.length<=1000):nE (model aR w) A (newList vs) (Bk B Z s Q) qH s:=
 nU (Bk.new1 R (OR.newList m _) q (t:=s.toks)) (vq hz)
theorem H7(R:pA B Z T s.heap)(m:qX Z xs vs)(q:Q (.ref T.length) (T++[.tup xs]))(hz:vs.length<=1000):nE (model aR w) A (newTuple vs) (Bk B Z s Q) qH s:=
 nU (Bk.new1 R (OR.newTup m _) q (t:=s.toks)) (vq hz)
theorem Ru(vs:List nr)(k:Nat):List.foldl (λx1 x2=>x1++x2) #[] (cZ (if vs.toArray.isEmpty=b9 then 0 else k) vs.toArray)=(cZ k vs).flatten.toArray:=by
 have h1:∀(k:Nat) (a:List nr),List.foldl (λx1 x2=>x1++x2) a.toArray (cZ k vs.toArray)=(a++(cZ k vs).flatten).toArray:=by
  intro k
  induction k with
  | zero=>intro a;simp
  | succ k ih=>
   intro a;rw[fQ,fQ,ja,je,ih,iI,aa]
 cases vs with
 | nil=>simp
 | cons v vs=>
  have:=h1 k [];simpa using this
theorem Ph(R:pA B Z T s.heap)(hl:IsL s.heap l vs.toArray n)(m:qX Z xs vs)(h0:0<=k)(h1:k<=1000)(h2:xs.length<=10)
  (q:Q (.ref T.length) (T++[.list (cZ k.toNat xs).flatten])):nE (model aR w) A (binaryOp .Mult (.ref l) (.int k u)) (Bk B Z s Q) qH s:=by
 have z63:(2:Int) ^ 63=9223372036854775808:=by decide
 have hlen:=m.length;have hk:k.toNat<=1000:=by lia
 have hsz:vs.length*k.toNat<=10000:=by
  have:vs.length<=10:=by lia
  calc vs.length*k.toNat<=10*1000:=Nat.mul_le_mul this hk
   _=10000:=by decide
 refine wpAny_binaryOp_repeat_ref (T:="list") (U:="int") ⋯ ⟨_,hl,rfl⟩ (λs'=>typeIs_int s' k u) noFill_list_mul F.fills_int_mul F.slot_int_rmul repeat_list F.slot_int_index.lookup
  (n8 F.slot_int_rmul (typeIs_int s k u) F.entry_int_rmul (F.args_int_rmul_2 _ _) (int___rmul___int_list k u l vs.toArray n)
   ⟨hl,rfl,⟨_,hl,rfl⟩,n8 F.slot_list_mul ⟨_,hl,rfl⟩ F.entry_list_mul (F.args_list_mul_2 _ _)
    (AutoListH.list___mul___list_int_3 l vs.toArray n k u ?_ ?_ ?_) ⟨hl,?_⟩⟩)
 .simp [Builtin.List.listFitsIndex];lia
 .simp only[dM];lia
 .simp only[dM,iu,sizeLine_eq];simp;lia
 .rw[Ru];exact Bk.new1 R (OR.newList (m.rep k.toNat) _) q
theorem JD{x lo hi:V}{vx vl vu:nr}(C:vB K B)(he:tj (xT K x lo hi T) Q)(R:pA B Z T s.heap)(hx:VR Z x vx)(hl:VR Z lo vl)(hu:VR Z hi vu):
  nE (model aR w) A (getItem vx (.ref s.heap.objs.size)) (Bk B Z s Q) qH {s with heap:=s.heap.push {cls:=.type "slice",data:=.fields #[vl,vu,.none]}}/\({s with heap:=s.heap.push {cls:=.type "slice",data:=.fields #[vl,vu,.none]}}:nB).TypeIs vx "list":=by
 ext aR w K B A Z T s Q x lo hi vx vl vu;obtain⟨v,aK,e,q⟩:=CU he;refine E7 e λxs q1 e1=>bd e1 λa q2 e2=>bd e2 λb q3 e3=>Sb e3 λhz e4=>?_;cases (e4);obtain⟨ad,vs,rfl,l,m⟩:=Ig C R hx q1;obtain⟨o1,p1,r1⟩:=M4 hl q2;obtain⟨o2,p2,r2⟩:=M4 hu q3;rw[m.length] at r2 hz;have l':=l.push {cls:=.type "slice",data:=.fields #[vl,vu,.none]};refine⟨wpAny_getItem_list_slice l' (Heap.IsSliceOf.new ..) p1 p2 .none (λz=>nomatch z) ?_ (vq hz),l'.typeIs⟩;rw[UN r1 r2];have h:=Bk.new1 (s:={s with heap:=s.heap.push {cls:=.type "slice",data:=.fields #[vl,vu,.none]}}) (R.push _) (OR.newList ((m.take b).drop a) _) q (t:=s.toks);exact Bk.of (⟨.refl _ _,R.push _,.push _ _ _,trivial,rfl,rfl⟩:vU B Z s T .none Z .none {s with heap:=s.heap.push {cls:=.type "slice",data:=.fields #[vl,vu,.none]}}) h
theorem Mo(q:TW h v=b9):∃p xs,v= .ref p/\h[p]? =J (.list xs):=by
 cases v with
 | ref p=>
  ext h p;have q:(match h[p]? with | some (.list _)=>b9 | _=>cj)=b9:=q;cases g:h[p]? with
  | none=>rw[g] at q;exact(dd q).elim
  | some o=>rw[g] at q;cases o<;>first | exact(dd q).elim | exact⟨p,_,rfl,g⟩
 | _=>exact(dd q).elim
theorem Q4(h:TW T u=b9)(R:pA B Z T s.heap)(hx:VR Z u val):∃a vs n,val= .ref a/\IsL s.heap a vs n:=by
 obtain⟨i,xs,rfl,q⟩:=Mo h;obtain⟨a,vs,n,rfl,g,l,m⟩:=uj R hx q;exact⟨a,_,n,rfl,l⟩
theorem Mb(h:tu o=b9)(name:Str)(whole:Sem nr):attributeBase o name aQ whole=whole:=by
 exact EJ (C:=λo=>attributeBase o name aQ whole=whole) h (λw w=>rfl) (λw w w=>rfl) λw w w=>rfl
theorem Vh{id:String}{v:nr}{pl:Sem Bool}{Q:nr × List nr->nB->Prop}{E:nr->nB->Prop}(slot:Slot "list" name id)(hty:typeOf (.builtin id)=pure (.type "method_descriptor"))(h:∃a vs n,v= .ref a/\IsL s.heap a vs n)(q:Q (.builtin id,[v]) s):
  nE (model aR w) A (getMethod v name pl) Q E s:=by
 obtain⟨a,vs,n,rfl,l⟩:=h;exact getMethod_builtin ⟨_,l,rfl⟩ F.plainAttrs_list slot hty (λb hb=>by cases hb;exact⟨_,l,rfl⟩) q
theorem AQ{name:Str}{ap pos:Pos}{args:List bo}{id:String}{Q':nr->nB->Prop}{E:nr->nB->Prop}(hb:tu o=b9)(hline:(ap.endLine == pos.line)=b9)(hfew:methodCallForm (args.length+([]:List Keyword).length) (backTo pos (starEach args aQ)) (backToKw pos (keywordEach [] aQ))=b9)(slot:Slot "list" name id)(hty:typeOf (.builtin id)=pure (.type "method_descriptor"))(h:nE (model aR w) A (eval o aQ) (λov s₁=>(∃a vs n,ov= .ref a/\IsL s₁.heap a vs n)/\nE (model aR w) A (callWith pos (.builtin id) [ov] (backTo pos (starEach args aQ)) []) Q' E s₁) E s):
  nE (model aR w) A (eval (.Call (.Attribute o name ap) args [] pos) aQ) Q' E s:=by
 rw[arm_eval_Call,Mb hb];refine nu (nL h (λov s₁ h₁=>?_) λz z e=>e);obtain⟨hL,hc⟩:=h₁;refine nu (nZ ?_);have hpos:methodCallPos b9 o aQ ap pos=pure pos:=by unfold methodCallPos;simp [hline]
 unfold methodCall;rw[hfew];refine nu (nR (Vh slot hty hL ?_));exact nu (wpAny_of_eq hpos hc)
theorem Mw{args:List bo}{pos:Pos}{k:Args->nB->Prop}{E:nr->nB->Prop}(h:nE (model aR w) A (spliced (backTo pos (starEach args aQ))) (λvs s'=>k ⟨vs,[]⟩ s') E s)(hs:(backTo pos (starEach args aQ)).any (·.1)=cj):
  nE (model aR w) A (evalArgs f b9 (backTo pos (starEach args aQ)) []) k E s:=by
 have key:∀l:List (Bool × Sem nr),l.any (·.1)=cj->nE (model aR w) A (spliced l) (λvs s'=>k ⟨vs,[]⟩ s') E s->nE (model aR w) A (evalArgs f b9 l []) k E s:=by
  intro l hs h;cases l with
  | nil=>
   unfold evalArgs;show nE (model aR w) A (spliced [] >>= _) k E s;refine nu (nL h (λvs s' q=>nu (nJ ?_)) λz z x=>x);refine nR ?_;exact nu (nJ (nu (nJ (nJ q))))
  | cons x r=>
   obtain⟨b,t⟩:=x;have hb:b=cj:=by cases b<;>first | rfl | simp at hs
   subst hb;exact gB h
 exact key _ hs h
end
end
section
open PySem PySem.W PyProof.Rows PySem.SeqAt
theorem Fw{sc:nV}(h:∀x∈sc.names,x.2= .free->(aQ.cells.lookup x.1).isSome=b9):
  ∃cl,closureFor sc aQ=pure cl/\(∀x c,cl.lookup x=J c->aQ.cells.lookup x=J c)/\∀x∈sc.names,x.2= .free->(cl.lookup x.1).isSome=b9:=by
 ext aQ sc;have key:∀(l:List (Str × nH)) (cs:List (Str × Addr)),(∀x∈l,x.2= .free->(aQ.cells.lookup x.1).isSome=b9)->(∀x c,cs.lookup x=J c->aQ.cells.lookup x=J c)->
   ∃cl,(forIn l cs (λx r=>if(x.2 == iw)=b9 then do let c <-cellOf aQ x.1;pure (jb ((x.1,c)::r)) else pure (jb r)):Sem (List (Str × Addr)))=pure cl/\(∀x c,cl.lookup x=J c->aQ.cells.lookup x=J c)/\
    (∀x∈l,x.2= .free->(cl.lookup x.1).isSome=b9)/\(∀x,(cs.lookup x).isSome=b9->(cl.lookup x).isSome=b9):=by
  intro l
  induction l with
  | nil=>intro cs _ hcs;exact⟨cs,rfl,hcs,λx hx=>(nomatch hx),λx hx=>hx⟩
  | cons x l ih=>
   intro cs hl hcs;obtain⟨y,k⟩:=x;have hl':∀x∈l,x.2= .free->(aQ.cells.lookup x.1).isSome=b9:=λx hx=>hl x (.tail _ hx);by_cases hk:k= .free
   .subst hk;obtain⟨c,hc⟩:=eH.mp (hl (y,.free) (.head _) rfl);obtain⟨cl,e1,e2,e3,e4⟩:=ih ((y,c)::cs) hl' (λx c' h=>by
     rw[d9] at h;cases q:x == y with
     | true=>rw[q] at h;cases h;rw[show x=y by simpa using q];exact hc
     | false=>rw[q] at h;exact hcs x c' h)
    refine⟨cl,?_,e2,λx hx hf=>?_,λx hx=>e4 x ?_⟩
    .rw[mJ];have:cellOf aQ y=pure c:=by unfold cellOf;rw[hc]
     simp only[beq_self_eq_true,if_true,this];exact e1
    .cases hx with
     | head=>exact e4 y (by rw[d9,beq_self_eq_true];rfl)
     | tail _ hx=>exact e3 x hx hf
    .rw[d9];cases x == y<;>first | rfl | exact hx
   .have hb:(k == iw)=cj:=by simpa using hk
    obtain⟨cl,e1,e2,e3,e4⟩:=ih cs hl' hcs;refine⟨cl,?_,e2,λx hx hf=>?_,e4⟩
    .rw[mJ];simp only[hb,lC,if_false];exact e1
    .cases hx with
     | head=>exact cJ hf hk
     | tail _ hx=>exact e3 x hx hf
 obtain⟨cl,e1,e2,e3,e4⟩:=key sc.names [] h (λx c h=>by cases h);refine⟨cl,?_,e2,e3⟩;unfold closureFor;simp only[bind_pure_comp] at e1 ⊢;rw[e1];rfl
section
variable{aR:nN}{w:dw}{K:pN}{KF:Frag}{B:Heap}{mg mb:Str->Option nr}{d:Nat}
variable{A:nQ}{aQ:eC}{P:Pm}{e:Mine.Lake.nw}{Z aL:tv}{T aK:H}{s s':nB}{Q:V->H->Prop}
theorem OX{vx:nr}{j:Nat}{k:It}{Q:nr->nB->Prop}{E:nr->nB->Prop}(I:Ba s.heap it vx j k)(q:Q (.ref it) s):nE (model aR w) A (pyIter (.ref it)) Q E s:=by
 cases k with
 | list=>obtain⟨a,rfl,I⟩:=I;exact wpAny_pyIter_listiter I q
 | tup=>
  obtain⟨a,rfl,I⟩:=I;refine wpAny_pyIter_slot I.typeIs js (n3 js I.typeIs F.entry_tuple_iterator_iter ?_ (F.args_tuple_iterator_iter_1 _));show nE _ _ (ret (.ref it)) _ _ s;exact nJ ⟨_,rfl,"tuple_iterator",_,I.typeIs,F.slot_tuple_iterator_next.lookup,q⟩
 | aT a b c=>
  have I:nX s.heap it (a+j*c) ((pI a b c:Int) - j) c:=I;have hT:s.TypeIs (.ref it) "range_iterator":=⟨_,I,rfl⟩
  refine wpAny_pyIter_slot hT jt (n3 jt hT F.entry_range_iterator_iter ?_ (F.args_range_iterator_iter_1 _));show nE _ _ (ret (.ref it)) _ _ s;exact nJ ⟨_,rfl,"range_iterator",_,hT,F.slot_range_iterator_next.lookup,q⟩
theorem vU.but{val:nr}{a:Addr}(p:vU B Z s aK v aL val s'){s₂:nB}(hs:gK a s'.heap s₂.heap)(n:s.heap.get? a=U)(o:BU aL a)(b:B.get? a=U)(hg:s₂.gens=s'.gens)(ho:s₂.os=s'.os):vU B Z s aK v aL val s₂:=
 ⟨p.ext,p.rel.extBut hs o b,λc ob g n'=>hs c ob (λt=>by rw[t,n] at g;cases g) (p.keep c ob g n'),p.val,hg.trans p.gens,ho.trans p.os⟩
theorem qD.but(X:qD P aQ B Z e s.heap)(hs:gK a s.heap h')(n1:a≠aQ.locals)(n2:∀x c,aQ.cells.lookup x=J c->a≠c):qD P aQ B Z e h':=by
 obtain⟨m,n,hm⟩:=X.m;refine⟨⟨m,n.extBut hs (dT n1),hm⟩,λy c hc=>?_,X.own,X.bJ,X.apart⟩;obtain⟨w,⟨oc,hoc,hd⟩,hw⟩:=X.cel y c hc;exact⟨w,⟨oc,hs _ _ (dT (n2 y c hc)) hoc,hd⟩,hw⟩
theorem qD.less(X:qD P aQ B Z e s.heap)(h:∀(i:Nat) (v:V),e'[i]? =J (J v)->e[i]? =J (J v)):qD P aQ B Z e' s.heap:=by
 obtain⟨m,n,hm⟩:=X.m;refine⟨⟨m,n,λi x v a b c=>hm i x v a (h i v b) c⟩,λy c hc=>?_,X.own,X.bJ,X.apart⟩;obtain⟨w,hw,k⟩:=X.cel y c hc;exact⟨w,hw,λi v a b c=>k i v a (h i v b) c⟩
end
end
section
open PySem PySem.W PyProof.Rows PySem.SeqAt
def KT(aQ:eC)(x:Str)(k:nH):nH:=if(k == iw&&aQ.scope.kind == .function&&aQ.kindOf x == J .cell)=b9 then .cell else k
theorem y9:∀names:List (Str × nH),
  (names.map λ(n,k)=>if(k == iw&&aQ.scope.kind == .function&&aQ.kindOf n == J .cell) then(n,ni) else(n,k)).lookup x=(names.lookup x).map (KT aQ x)
 | []=>rfl
 | (n,k)::r=>by
  have e:(if(k == iw&&aQ.scope.kind == .function&&aQ.kindOf n == J .cell)=b9 then(n,ni) else(n,k))=(n,KT aQ n k):=by
   unfold KT;split<;>rfl
  rw[dA];show List.lookup x ((if _ then _ else _)::_)=_;rw[e,d9,d9,y9 r];cases hx:x == n with
  | true=>rw[cK hx];rfl
  | false=>rfl
structure BN (P:Pm) (t:Str) (sc:nV):Prop where
 inner:P.inner=U
 dbg:(t == ("__debug__" :Str))=cj
 ne:t≠bb ""
 kind:sc.kind= .function
 gen:sc.isGenerator=cj
 co:sc.isCoroutine=cj
 loc:∀x,(x,NameKind.local)∈sc.names->x=t\/x=bb ".0"
 free:∀x,(x,iw)∈sc.names->P.names.lookup x=J .cell/\sc.names.lookup x=J .free
 nocell:∀y∈sc.names,y.2≠.cell
 noemp:∀y∈sc.names,y.1≠bb ""
 dot:∀y∈P.names,y.1≠bb ".0"
 tl:sc.names.lookup t=J .local
 dl:sc.names.lookup (bb ".0")=J .local
section
variable{aR:nN}{w:dw}{K:pN}{KF:Frag}{B:Heap}{mg mb:Str->Option nr}{d:Nat}
variable{A:nQ}{aQ:eC}{P:Pm}{e:Mine.Lake.nw}{Z aL:tv}{T aK:H}{s s':nB}{Q:V->H->Prop}
theorem Hy(hi:P.inner=U)(h:P.names[i]? =J (x,k))(hk:FN k=b9):P.kind i x=J k:=by
 unfold Pm.kind;rw[hi];exact UD h hk
theorem AJ:∀{l:List (Str × nH)},l.lookup x=J k->∃i:Nat,l[i]? =J (x,k)
 | [],h=>by cases h
 | (y,k')::r,h=>by
  rw[d9] at h;cases q:x == y with
  | true=>rw[q] at h;cases h;exact⟨0,by rw[show x=y by simpa using q];rfl⟩
  | false=>rw[q] at h;obtain⟨i,hi⟩:=AJ h;exact⟨i+1,hi⟩
def Pm.into(P:Pm)(t:Str)(sc:nV):Pm:={P with inner:=J (t,sc.names)}
theorem xF(h:(P.into t sc).nm[i]? =J x):(i=P.names.length/\x=t)\/(i<P.names.length/\(x=bb ""\/(x≠t/\∃k,P.names[i]? =J (x,k)))):=by
 ext P t sc i x;have h:(P.names.map (λy=>if oX y.1 t then bb "" else y.1)++[t])[i]? =J x:=h;by_cases q:i<P.names.length
 .rw[ae (by rw[bj];exact q),cY] at h;obtain⟨y,hy,h⟩:=dj.mp h;refine .inr ⟨q,?_⟩;split at h
  .exact .inl h.symm
  .rename_i z;subst h;exact .inr ⟨λg=>z (g▸wn _),y.2,hy⟩
 .have q:=d7 q;rw[cT (by rw[bj];exact q),bj] at h;have l:=Nat.lt_one_iff.mp (f0 h);rw[l] at h;exact .inl ⟨ix (Nat.le_of_sub_eq_zero l) q,(cL h).symm⟩
theorem TP{sc:nV}{i:Nat}{x:Str}{k:nH}(h:P.names[i]? =J (x,k))(hx:x≠t):(P.into t sc).nm[i]? =J x:=by
 show(P.names.map (λy=>if oX y.1 t then bb "" else y.1)++[t])[i]? =J x;rw[ae (by rw[bj];exact f0 h),cY,h];exact cI J (cH λg=>hx (o4 g))
theorem Ou:(P.into t sc).nm[P.names.length]? =J t:=by
 show(P.names.map (λy=>if oX y.1 t then bb "" else y.1)++[t])[P.names.length]? =J t;rw[cT (by rw[bj];exact da _),bj,eE];rfl
theorem Nz(hi:P.inner=U){i:Nat}(h:P.names[i]? =J (y,k)):P.nm[i]? =J y:=by
 unfold Pm.nm;rw[hi];dsimp only;rw[cY,h];rfl
theorem EH(h:(compEnvC sc cl C aQ).kindOf x=J k):∃k',sc.names.lookup x=J k'/\KT aQ x k'=k:=dj.mp ((y9 sc.names).symm.trans h)
theorem GC(h:sc.names.lookup x=J k):(compEnvC sc cl C aQ).kindOf x=J (KT aQ x k):=(y9 sc.names).trans (by rw[h];rfl)
theorem OB{sc:nV}{cl:List (Str × Addr)}{C:Addr}(X:uR KF mg mb P aQ)(aj:BN P t sc)(hcl:∀x∈sc.names,x.2= .free->(cl.lookup x.1).isSome=b9):
  uR KF mg mb (P.into t sc) (compEnvC sc cl C aQ) where
 kind:=aj.kind
 gl:=X.gl
 bl:=X.bl
 ft:=X.ft
 ks:=λi x k h=>(v7 h).elim (λ⟨e1,e2,e3⟩=>by
   subst e1 e2 e3;exact⟨nW aj.tl,aj.dbg,Ou⟩) λ⟨_,h1,h2,h3,e⟩=>by
  subst e;have c:=X.ks i x .cell (Hy aj.inner h1 rfl);exact⟨(GC h2).trans (cI J (cG (by rw[c.1,X.kind];rfl))),c.2.1,TP h1 h3⟩
 cs:=λi x h=>(v7 h).elim (λh=>nomatch h.2.2) λh=>hcl (x,.free) (nS h.2.2.1) rfl
 apart:=λi x k h hi j hj=>(v7 h).elim (λh1=>(xF hj).elim (λh2=>h2.1.trans h1.1.symm) λh2=>h2.2.elim (λe=>cJ (h1.2.1.symm.trans e) aj.ne) λe=>cJ h1.2.1 e.1)
  λh1=>hi.elim (λh=>nomatch h) λh=>cJ h h1.1
 gs:=λi x g h=>by
  have h1:=O5 (c:=(t,sc.names)) h;have g2:=X.gs i x g (show Op P.inner _ _ _ _=_ from aj.inner▸h1.1);exact⟨GC h1.2,g2.2⟩
theorem Ob{t:Str}(X:uR KF mg mb P aQ)(Y:qD P aQ B Z e s.heap)(aj:BN P t sc)(hcl:∀x c,cl.lookup x=J c->aQ.cells.lookup x=J c)
  (hk:∀b o,s.heap.get? b=J o->h'.get? b=J o) (hC:s.heap.get? C=U) (oC:BU Z C) (bC:B.get? C=U) (n:h'.Ns C m):
  qD (P.into t sc) (compEnvC sc cl C aQ) B Z (e.set P.names.length U) h' where
 m:=⟨m,n,λi x v h1 h2 h3=>by
  exfalso;obtain⟨k,hl,e⟩:=EH h3;have hl:sc.names.lookup x=J .local:=by
   unfold KT at e;split at e
   .exact nomatch e
   .rw[hl,e]
  have hm:=nS hl;rcases xF h1 with⟨e1,e2⟩ | ⟨l,e1 | ⟨e1,k',e2⟩⟩
  .rcases t9 h2 with⟨_,q,_⟩ | ⟨q,_⟩
   .exact nomatch q
   .exact q e1.symm
  .exact aj.noemp _ hm e1
  .exact(aj.loc x hm).elim e1 (aj.dot (x,k') (dD e2))⟩
 own:=⟨oC,bC⟩
 apart:=λx y c h1 h2=>Y.apart x y c (hcl x c h1) (hcl y c h2)
 bJ:=λx c hc=>by
  obtain⟨u,⟨oc,ho,hd⟩,hw⟩:=Y.cel x c (hcl x c hc);have:=Y.bJ x c (hcl x c hc);exact⟨this.1,this.2.1,λq=>nomatch ((show s.heap.get? C=J oc from(show c=C from q)▸ho).symm.trans hC)⟩
 cel:=λx c hc=>by
  obtain⟨u,⟨oc,ho,hd⟩,hw⟩:=Y.cel x c (hcl x c hc);refine⟨u,⟨oc,hk _ _ ho,hd⟩,λi v h1 h2 h3=>?_⟩;obtain⟨k,hl,e⟩:=EH h3;have hm:=nS hl;have hkf:k= .free:=by
   unfold KT at e;split at e
   .rename_i q;exact cK (bl (bl q))
   .exact cJ e (aj.nocell _ hm)
  subst hkf;obtain⟨i',hi'⟩:=AJ (aj.free x hm).1;have ck:=(X.ks i' x .cell (Hy aj.inner hi' rfl)).1;rcases xF h1 with⟨e1,e2⟩ | ⟨l,e1 | ⟨e1,k',e2⟩⟩
  .rw[e2,aj.tl] at hl;exact nomatch hl
  .exact cJ e1 (aj.noemp _ hm)
  .rcases t9 h2 with⟨_,q,_⟩ | ⟨_,q⟩
   .exact nomatch q
   .exact hw i v (Nz aj.inner e2) q ck
end
end
section
open PySem PySem.W PyProof.Rows PySem.SeqAt
section
variable{aR:nN}{w:dw}{K:pN}{KF:Frag}{B:Heap}{mg mb:Str->Option nr}{d:Nat}
variable{A:nQ}{aQ:eC}{P:Pm}{e:Mine.Lake.nw}{Z aL:tv}{T aK:H}{s s':nB}{Q:V->H->Prop}
theorem M9{r:Option It}{Q:It->Prop}(h:YX r Q):∃k,r=J k/\Q k:=by
 match r with
 | .none=>exact h.elim
 | some v=>exact⟨v,rfl,h⟩
theorem RO{x:bo}(h:(!(x.ctorIdx == 7))=b9)(aQ:eC)(v:nr):foldedSetIterable x aQ v=pure v:=by
 cases x<;>first | rfl | exact(dd h).elim
def Be(P:Pm)(test:E)(ifs:List bo):Prop:=(ifs=[]/\test= .bool b9)\/∃c,ifs=[c]/\chk P test c=b9/\Mr test c=b9
theorem IV{test:E}{ifs:List bo}{af:Bool->H->Prop}(hT:Be P test ifs)(st:uQ aR w K KF B mg mb d test)(X:uR KF mg mb P aQ)(r:uH A d)(Y:qD P aQ B Z e s.heap)(R:pA B Z T s.heap)(he:ev K test e T λy h=>yo (tr y) λt=>af t h):
  nE (model aR w) A (forIn ifs b9 λc r=>if r=b9 then do let ok <-isTrue c aQ (eval c aQ);pure (jb ok) else pure (jb r)) (Md B Z s af) qH s:=by
 rcases hT with⟨rfl,rfl⟩ | ⟨c,rfl,hc⟩
 .refine wpAny_tests_nil ?_;exact Md.now R he
 .exact wpAny_tests_one (st P aQ A c e Z T s af hc.1 hc.2 X r Y R he)
theorem abq{α β γ:Type}{p1 p2 p3 p4 p5 p6 p7:α->β->γ->Prop}{C:Prop}(h:∃a b c,p1 a b c/\p2 a b c/\p3 a b c/\p4 a b c/\p5 a b c/\p6 a b c/\p7 a b c)(f:∀a b c,p1 a b c->p2 a b c->p3 a b c->p4 a b c->p5 a b c->p6 a b c->p7 a b c->C):C:=
 h.elim λa h=>h.elim λb h=>h.elim λc h=>f a b c h.1 h.2.1 h.2.2.1 h.2.2.2.1 h.2.2.2.2.1 h.2.2.2.2.2.1 h.2.2.2.2.2.2
theorem XB{α β γ:Type}{p1 p2 p3 p4 p5 p6 p7:α->β->γ->Prop}(a:α)(b:β)(c:γ)(h1:p1 a b c)(h2:p2 a b c)(h3:p3 a b c)(h4:p4 a b c)(h5:p5 a b c)(h6:p6 a b c)(h7:p7 a b c):∃a b c,p1 a b c/\p2 a b c/\p3 a b c/\p4 a b c/\p5 a b c/\p6 a b c/\p7 a b c:=
 ⟨a,b,c,h1,h2,h3,h4,h5,h6,h7⟩
theorem sn{α:Type}{x:Option α}{a:α}{C:Prop}(h:x=J a)(g:x=U):C:=nomatch g.symm.trans h
theorem ss{α:Type}{x:Option α}{a b:α}(h:x=J a)(g:x=J b):a=b:=cL (h.symm.trans g)
theorem N6{n:Nat}{k:It}{x:V}{a j:Nat}{f:V->H->(Option V->H->Prop)->Prop}{h:H}{C:Prop}(z:xB K n k x a j f h Q)
  (c:∀m,m<n->(Ip (oG K k h x j) (Q (.ref a) h) λv=>f v h λu h=>RB u (xB K m k x a (j+1) f h Q) λu=>tj (pu (.ref a) u h) λw h=>xB K m k x a (j+1) f h Q)->C):C:=match n,z with
 | n+1,z=>c n (dO n) z
theorem TT{b:Bool}{P Q:Prop}(x:b=b9->P)(y:b=cj->Q):if b=b9 then P else Q:=by cases b<;>first | exact x rfl | exact y rfl
theorem xK{h h':Heap}{b:Addr}(k:∀b o,h.get? b=J o->h'.get? b=J o)(hn:h'.get? b=U):h.get? b=U:=by
 cases q:h.get? b with
 | none=>rfl
 | some o=>exact sn (k b o q) hn
theorem vU.bE{v:V}{val:nr}{a:Addr}(p:vU B Z s aK v aL val s')(hn:s'.heap.get? a=U):s.heap.get? a=U:=by
 cases q:s.heap.get? a with
 | none=>rfl
 | some o=>
  refine cM λw=>?_;by_cases ho:BU Z a
  .exact sn (p.keep _ o q ho) hn
  .obtain⟨j,p',hj,hp⟩:=HN ho;have al:=p.rel.alive (p.ext.old j p' hj);exact hp.elim (λe=>al.1.elim λw z=>sn ((cI _ e).trans z) hn) λe=>al.2.elim λw z=>sn ((cI _ e).trans z) hn
theorem Dk{e:Mine.Lake.nw}{n i:Nat}{o o':Option V}{v:V}(q:n≠i)(h:e[i]? =J (J v)):(e.set n o)[i]? =J (J v):=by
 rw[iH,cH q];exact h
theorem Ge(e:Mine.Lake.nw)(n:Nat)(u:Option V)(i:Nat)(v:V)(h:(e.set n U)[i]? =J (J v)):(e.set n u)[i]? =J (J v):=
 (t9 h).elim (λh=>nomatch h.2.1) λh=>Dk (o':=u) h.1 h.2
theorem JT{t:Str}{sc:nV}{cl:List (Str × Addr)}{C:Addr}{m:Str->Option nr}{h h7:Heap}{u:V}{uv:nr}(aj:BN P t sc)(Y:qD (P.into t sc) (compEnvC sc cl C aQ) B Z (e.set P.names.length U) h)
  (hm:∀(i:Nat) (x:Str) (v:V),(P.into t sc).nm[i]? =J x->(e.set P.names.length U)[i]? =J (J v)->(compEnvC sc cl C aQ).kindOf x=J .local->∃w,m x=J w/\VR Z v w)
  (n7:h7.Ns C (λy=>if y=t then J uv else m y)) (hs:∀b,b≠C->h7.get? b=h.get? b) (hu:VR Z u uv):qD (P.into t sc) (compEnvC sc cl C aQ) B Z (e.set P.names.length (J u)) h7 where
 m:=⟨_,n7,λi y v h1 h2 h3=>by
  rcases t9 h2 with⟨e1,e2,_⟩ | ⟨q1,q2⟩
  .rcases xF h1 with⟨_,z⟩ | ⟨z,_⟩
   .exact⟨uv,cG z,cL e2▸hu⟩
   .exact cJ e1 (fh z)
  .obtain⟨w,hw,r⟩:=hm i y v h1 (Dk (o':=U) q1 q2) h3;refine⟨w,(cH λz=>?_).trans hw,r⟩;rcases xF h1 with⟨g,_⟩ | ⟨_,g | ⟨g,_⟩⟩
   .exact q1 g.symm
   .exact aj.ne (z▸g)
   .exact g z⟩
 cel:=λy c hc=>by
  obtain⟨w',⟨oc,ho,hd⟩,hw'⟩:=Y.cel y c hc;refine⟨w',⟨oc,(hs c (Y.bJ y c hc).2.2).trans ho,hd⟩,λi v' h1 h2 h3=>hw' i v' h1 ?_ h3⟩;rcases t9 h2 with⟨e1,_,_⟩ | ⟨q1,q2⟩
  .rcases xF h1 with⟨_,z⟩ | ⟨z,_⟩
   .exact nomatch ss h3 ((cI _ z).trans (nW aj.tl))
   .exact cJ e1 (fh z)
  .exact Dk (o':=U) q1 q2
 own:=Y.own
 bJ:=Y.bJ
 apart:=Y.apart
def VP(K:pN)(test elt:E)(e:Mine.Lake.nw)(n:Nat):V->H->(Option V->H->Prop)->Prop:=λv h P'=>
 ev K test (e.set n (J v)) h λy h=>yo (tr y) λt=>wT t (ev K elt (e.set n (J v)) h λu h=>P' (J u) h) (P' .none h)
theorem OY {elt test:E}{x it:bo}{ifs:List bo}{t:Str}{tp pos:Pos}{sc:nV}{cl:List (Str × Addr)}{C:Addr}{k:It}{v:V}{val:nr}{a:Nat}{ita AC:Addr}{R:Result->nB->Prop}(S:BV K KF B mg mb)(aj:BN P t sc)(X:uR KF mg mb (P.into t sc) (compEnvC sc cl C aQ))(r:uH A d)(hx:chk (P.into t sc) elt x=b9)(sx:oL aR w K KF B mg mb d elt)(hT:Be (P.into t sc) test ifs)(st:uQ aR w K KF B mg mb d test)(h0:s.heap.get? ita=U)(b0:B.get? ita=U)(hC:ita≠C)(hcl:∀x c,cl.lookup x=J c->ita≠c)(hC0:s.heap.get? C=U)(bC:B.get? C=U)(fin:∀s' aK aL,Q (.ref a) aK->vU B Z s aK .none aL .none s'->aL[a]? =J (AC,AC)->qD (P.into t sc) (compEnvC sc cl C aQ) B aL (e.set P.names.length U) s'.heap->R (.ok .next) s')(n:Nat)(I0:∃j aK aL,xB K n k v a j (VP K test elt e P.names.length) aK Q/\vU B Z s aK .none aL .none s'/\qD (P.into t sc) (compEnvC sc cl C aQ) B aL (e.set P.names.length U) s'.heap/\Ba s'.heap ita val j k/\VR aL v val/\
   aL[a]? =J (AC,AC)/\BU aL ita):
  codeAny (model aR w) A (.compLoop (.ListComp x [⟨.Name t tp,it,ifs,0⟩] sc pos) 0 (.ref ita) (.ref AC) (compEnvC sc cl C aQ)) R s':=by
 revert aQ P e Z s s' Q elt test x it ifs t tp pos sc cl C k v val a ita AC R n;ext aR w K KF B mg mb d A;revert test x it ifs t tp pos sc cl C k v val a ita AC R n;ext aQ P e Z s s' Q elt;revert C k v val a ita AC R n;ext test x it ifs t tp pos sc cl;revert n;ext C k v val a ita AC R;refine codeAny_compLoop_tests (λn s'=>∃j aK aL,xB K n k v a j (VP K test elt e P.names.length) aK Q/\vU B Z s aK .none aL .none s'/\qD (P.into t sc) (compEnvC sc cl C aQ) B aL (e.set P.names.length U) s'.heap/\Ba s'.heap ita val j k/\VR aL v val/\
   aL[a]? =J (AC,AC)/\BU aL ita) (λn s5 I=>abq I λj aK aL hw p5 Y5 I5 Yv ha5 hi5=>?_) n I0
 refine N6 hw λn' hn hw=>M6 r.1 S.con p5.rel Yv I5 hw (λs6 hs g o hw=>fin s6 aK aL hw (p5.but hs h0 hi5 b0 g o) ha5 (Y5.but (h':=s6.heap) hs hC hcl)) λs6 u uv hs g o hu I6 hw=>?_;have p6:=p5.but hs h0 hi5 b0 g o;have Y6:=Y5.but (h':=s6.heap) hs hC hcl;refine Y6.m.elim λm6 Y6m=>wpAny_assign_Name (wpAny_storeName_local (env:=compEnvC sc cl C aQ) (nW aj.tl) Y6m.1 (λh7 n7 hs7=>?_) (by show((relabel sc aQ).kind == .class||((relabel sc aQ).kind == .module&&_))=cj;rw[show(relabel sc aQ).kind= .function from aj.kind];rfl));have p7:=p6.but (s₂:={s6 with heap:=h7,toks:=s6.toks+1}) hs7.extBut hC0 Y6.own.1 bC rfl rfl;refine Vz (IV (s:={s6 with heap:=h7,toks:=s6.toks+1}) hT st X r (JT aj Y6 Y6m.2 n7 hs7.2 hu) p7.rel hw) λok σ8 ρ8 s8 q8 p8=>?_;have Y8:=(JT aj Y6 Y6m.2 n7 hs7.2 hu).on p8;have I8:=I6.at_ λo g=>p8.keep _ _ ((hs7.2 _ hC).trans g) hi5;have a8:=p8.ext.old _ _ ha5;have i8:BU ρ8 ita:=I6.alive.elim λoi hoi=>hi5.ext p8.ext (show h7.get? ita=J oi from(hs7.2 _ hC).trans hoi);refine TT (λe=>?_) λe=>?_
 .refine s7 (sx (P.into t sc) (compEnvC sc cl C aQ) A x _ ρ8 σ8 s8 _ hx X r Y8 p8.rel (q8.1 e)) λxu σ9 ρ9 xv s9 q9 p9=>?_;refine s7 (zj (pos:=pos) q9 p9.rel (show VR ρ9 (.ref a) (.ref AC) from⟨AC,p9.ext.old _ _ a8⟩) p9.val) λv10 σ10 ρ10 z s10 q10 p10=>?_;have pp:=p9.trans p10;exact⟨n',hn,XB (j+1) σ10 ρ10 q10 (((p7.trans p8).trans pp).bA trivial) ((Y8.on pp).less (Ge _ _ _)) (I8.at_ λo g=>pp.keep _ _ g i8) ((Yv.mono p8.ext.old).mono pp.ext.old) (pp.ext.old _ _ a8)
   (I8.alive.elim λoi hoi=>i8.ext pp.ext hoi)⟩
 .exact⟨n',hn,XB (j+1) σ8 ρ8 (q8.2 e) ((p7.trans p8).bA trivial) (Y8.less (Ge _ _ _)) I8 (Yv.mono p8.ext.old) a8 i8⟩
theorem Ew{elt iter test:E}{x it:bo}{ifs:List bo}{t:Str}{tp pos:Pos}{sc:nV}{use:Option (nr->Sem Unit)}{Qf:nr->nB->Prop}(S:BV K KF B mg mb)(aj:BN P t sc)(X:uR KF mg mb P aQ)(r:uH A d)(Y:qD P aQ B Z e s.heap)(R:pA B Z T s.heap)(hi:chk P iter it=b9)(hi':(!(it.ctorIdx == 7))=b9)(si:oL aR w K KF B mg mb d iter)(hx:chk (P.into t sc) elt x=b9)(sx:oL aR w K KF B mg mb d elt)(hT:Be (P.into t sc) test ifs)(st:uQ aR w K KF B mg mb d test)(he:ev K (.comp elt P.names.length iter test) e T Q)(fin:∀(s':nB) (aK:H) (aL:tv) (v:V) (acc C:Addr),Q v aK->vU B Z s aK v aL (.ref acc) s'->s.heap.get? C=U->BU aL C->B.get? C=U->(∃m,s'.heap.Ns C m)->compPost (model aR w) A qH use Qf (.ref acc) C (.ok .next) s'):
  nE (model aR w) A (comprehension (.ListComp x [⟨.Name t tp,it,ifs,0⟩] sc pos) sc aQ (firstIterPos [⟨.Name t tp,it,ifs,0⟩] pos) (newList []) cj (eval it aQ) use) Qf qH s:=by
 have hfree:∀x∈sc.names,x.2= .free->(aQ.cells.lookup x.1).isSome=b9:=λy hy hf=>by
  obtain⟨y,k⟩:=y;obtain rfl:k= .free:=hf;obtain⟨i',hi'⟩:=AJ (aj.free y hy).1;exact X.cs i' y (Hy aj.inner hi' rfl)
 obtain⟨cl,hclos,hcl1,hcl2⟩:=Fw hfree;refine wpAny_comprehension_free rfl (λv=>RO hi' aQ v) hclos aj.kind (λy hy hl=>by
  obtain⟨y,k⟩:=y;obtain rfl:k= .local:=hl;rcases aj.loc y hy with rfl | rfl
  .exact aj.tl
  .exact aj.dl) ?_
 refine s7 (si P aQ A it e Z T s _ hi X r Y R he) λv aM aW val s1 q1 p1=>(M9 q1).elim λk hk=>hk.2.elim λn hw=>?_;refine nL (D3 S.con p1.rel p1.val hk.1) (λitv s2 h2=>h2.elim λita h2=>?_) λz z x=>x;rw[h2.1];have Bg:=h2.2.1;have fI:=p1.rel.fresh Bg.fresh;have R2:pA B aW aM s2.heap:=p1.rel.out (λi p hp=>⟨λo g=>Bg.keep _ _ g,λo g=>Bg.keep _ _ g⟩) λb o g=>Bg.keep _ _ (p1.rel.base b o g);refine nU ?_;refine wpAny_newFunctionEnv aj.nocell (by intro y hy;simp at hy) (λh4 hn4 hs4=>?_) aj.kind;dsimp only at hn4 hs4 ⊢;generalize hH3:s2.heap.push {cls:=.type "list",dict:=U,data:=.seq ([]:List nr).toArray}=H3 at hn4 hs4 ⊢;have hC0:H3.get? H3.objs.size=U:=qM _;have k23:∀b o,s2.heap.get? b=J o->H3.get? b=J o:=λb o g=>hH3▸dB _ g;have k34:∀b o,H3.get? b=J o->h4.get? b=J o:=λb o g=>hs4.extBut b o (λt=>sn g ((cI _ t).trans hC0)) (dB _ g);have k24:∀b o,s2.heap.get? b=J o->h4.get? b=J o:=λb o g=>k34 b o (k23 b o g);have nA:=qM s2.heap;have nC:=xK k23 hC0;have fC:=R2.fresh nC;have RA:pA B (aW++[(s2.heap.objs.size,s2.heap.objs.size)]) (aM++[.list []]) h4:=by
  refine R2.new _ _ _ ⟨rfl,[],0,?_,.nil⟩ nA nA k24;refine k34 _ _ ?_;rw[<- hH3];exact IsL.new _ _
 have ex:we aW (aW++[(s2.heap.objs.size,s2.heap.objs.size)]) s1.heap:=.snoc _ _ (xK Bg.keep nA) (xK Bg.keep nA);have oS:∀b:Addr,b≠s2.heap.objs.size->BU aW b->BU (aW++[(s2.heap.objs.size,s2.heap.objs.size)]) b:=λb ne ho i p hp=>(sL hp).elim (λhp=>ho i p hp) λh=>h.2▸⟨ne,ne⟩;have oC:BU (aW++[(s2.heap.objs.size,s2.heap.objs.size)]) H3.objs.size:=oS _ (by rw[<- hH3,mY];exact mu _) fC.1;have hitC:ita≠H3.objs.size:=λq=>Bg.ok.alive.elim λo ho=>sn (k23 _ _ ho) ((cI _ q).trans hC0);have hita:=p1.bE Bg.fresh;have L:=λ{s3:nB} (h3:s3.heap=h4) (g3:s3.gens=s2.gens) (o3:s3.os=s2.os)=>OY (s':=s3) (pos:=pos) (tp:=tp) (it:=it) (val:=val) (R:=compPost (model aR w) A qH use Qf (.ref s2.heap.objs.size) H3.objs.size) S aj (OB (C:=H3.objs.size) X aj hcl2) r hx sx hT st hita fI.2 hitC
  (λx c hc q=>(Y.cel x c (hcl1 x c hc)).elim λu h=>h.1.elim λo ho=>sn ho.1 ((cI _ q.symm).trans hita)) (p1.bE (xK Bg.keep nC)) fC.2
  (λs' aK aL q p ha y=>fin s' aK aL _ _ _ q (p.bA (show VR aL (.ref aM.length) (.ref s2.heap.objs.size) from⟨_,ha⟩)) (p1.bE (xK Bg.keep nC)) y.own.1 fC.2 (y.m.elim λm n=>⟨m,n.1⟩)) n
  (XB 0 (aM++[.list []]) (aW++[(s2.heap.objs.size,s2.heap.objs.size)]) hw ⟨p1.ext.trans ex p1.keep RA.sep,h3▸RA,λb o g n=>h3▸k24 b o (Bg.keep b o (p1.keep b o g n)),trivial,g3.trans (h2.2.2.1.trans p1.gens),o3.trans (h2.2.2.2.trans p1.os)⟩
   (h3▸Ob X ((Y.on p1).step (.refl _ _) ex) aj hcl1 (λb o g=>k24 b o (Bg.keep b o g)) (xK Bg.keep nC) oC fC.2 hn4) (h3▸Bg.ok.at_ λo g=>k24 _ _ g) (p1.val.mono λi p e=>uC e)
   (by have:=um aW (s2.heap.objs.size,s2.heap.objs.size);rw[p1.rel.len] at this;exact this) (oS _ (Bg.ok.alive.elim λo ho=>Nat.ne_of_lt (Heap.lt_size ho)) fI.1))
 exact codeAny_compStart_list (L rfl rfl rfl) (OX (vx:=val) (j:=0) (k:=k) (Bg.ok.at_ λo g=>k24 _ _ g) (L rfl rfl rfl))
end
end
section
open PySem PySem.W PyProof.Rows PySem.SeqAt
section
variable{aR:nN}{w:dw}{K:pN}{KF:Frag}{B:Heap}{mg mb:Str->Option nr}{d:Nat}
variable{A:nQ}{aQ:eC}{P:Pm}{e:Mine.Lake.nw}{Z aL:tv}{T aK:H}{s s':nB}{Q:V->H->Prop}
theorem uH.cmp(r:uH A d):A.units+64<cLine:=ar (cS (iF (di _ (40*d)) (by decide:64<=200)) (da _)) r.2.2
theorem AP(h:Gs o p=b9):p=Jz o:=(cy h).symm
theorem Nw(h:Xe o p=b9):p=YB o:=(cy h).symm
theorem Kh(h:Lm P t sc=b9):BN P t sc where
 inner:=eu.mp (bl (bl (bl (bl (bl (bl (bl (bl (bl h)))))))))
 dbg:=(vS _ _).symm.trans (nt (br (bl (bl (bl (bl (bl (bl (bl (bl h))))))))))
 ne:=Ak (br (bl (bl (bl (bl (bl (bl (bl h))))))))
 kind:=cy (br (bl (bl (bl (bl (bl (bl h)))))))
 gen:=nt (br (bl (bl (bl (bl (bl h))))))
 co:=nt (br (bl (bl (bl (bl h)))))
 loc:=λx hx=>(ew.mp (show(oX x t||oX x (bb ".0"))=b9 from br (bl (cN.mp (br (bl (bl (bl h)))) _ hx)))).imp o4 o4
 free:=λx hx=>have z:=br (cN.mp (br (bl (bl (bl h)))) _ hx);⟨xR (bl z),xR (br z)⟩
 nocell:=λy hy=>cz (nt (br (bl (bl (cN.mp (br (bl (bl (bl h)))) _ hy)))))
 noemp:=λy hy=>Ak (bl (bl (bl (cN.mp (br (bl (bl (bl h)))) _ hy))))
 dot:=λy hy=>Ak (cN.mp (br (bl (bl h))) _ hy)
 tl:=xR (br h)
 dl:=xR (br (bl h))
theorem xU(hc:vY y=b9):backTo pos (starEach [y] aQ)=[(cj,eval y aQ)]:=by
 rw[vi (vH hc),xq];rfl
theorem Nu:∀{es:Es} {xs:List bo},IA P es xs=b9->(backTo pos (starEach xs aQ)).any (·.1)=cj
 | .nil,xs,h=>oR (C:=λxs=>(backTo pos (starEach xs aQ)).any (·.1)=cj) h rfl
 | .cons a es,xs,h=>oh (C:=λxs=>(backTo pos (starEach xs aQ)).any (·.1)=cj) h λx xs h=>by
  rw[vi (vH (bl (bl h))),xq,iT,Nu (br h)];rfl
theorem JF(h:Pe f o=b9):∃g,o=J g/\f g=b9:=match o,h with | some g,h=>⟨g,rfl,h⟩
theorem Qv{g:GV}(h:g.isV v=b9):g= .val v:=
 dt h λq h=>GV.val.elim (motive:=λg=>∀q,GV.val.elim (motive:=λw=>Bool) g q (vEq v)=b9->g= .val v) g q (λu w h=>cI GV.val (Xi h).symm) q h
theorem Yj{g:GV}(h:g.isB 1=b9):g= .len:=GV.len.elim (motive:=λg=>g= .len) g (cK h) rfl
theorem X5{g:GV}(h:g.isB 2=b9):g= .abs:=GV.abs.elim (motive:=λg=>g= .abs) g (cK h) rfl
theorem SJ{g:GV}(h:g.isB 3=b9):g= .range:=GV.range.elim (motive:=λg=>g= .range) g (cK h) rfl
theorem Aq{X Y af F:Prop}(q:wT b af F)(x:b=b9->af->X)(y:b=cj->F->Y):if b=b9 then X else Y:=by
 cases b with
 | true=>exact x rfl (q.1 rfl)
 | false=>exact y rfl (q.2 rfl)
theorem Sd(e:r=J t)(x:yo r X):X t:=by subst e;exact x
section
variable(S:BV K KF B mg mb)(M:K.aV)(CK:qF aR w K B d)
include S M CK
theorem Ty:oL aR w K KF B mg mb d (.bK):=λP aQ A ex e Z T s Q hc X r Y R he=>by
 refine zx hc λc z z hc=>?_;rw[cy hc];exact Constant_none (Bk.none (t:=s.toks) R he)
theorem ST(b:Bool):oL aR w K KF B mg mb d (.bool b):=λP aQ A ex e Z T s Q hc X r Y R he=>by
 refine zx hc λc z z hc=>?_;rw[cy hc];exact Constant_bool (Bk.bool (t:=s.toks) R he)
theorem UX(i:Int):oL aR w K KF B mg mb d (.int i):=λP aQ A ex e Z T s Q hc X r Y R he=>by
 refine zx hc λc z z hc=>?_;rw[cy hc];exact wpAny_Constant_int (Bk.int R he)
theorem UB(i:Str):oL aR w K KF B mg mb d (.str i):=λP aQ A ex e Z T s Q hc X r Y R he=>by
 refine zx hc λc z z hc=>Xa hc ?_;exact Calls.Constant_str (Bk.now he R (show VR Z (.str i) (.str i s.toks) from rfl))
theorem Vj(i:Nat):oL aR w K KF B mg mb d (.loc i):=λP aQ A ex e Z T s Q hc X r Y R he=>by
 refine ry hc λx z hc=>?_;obtain⟨k,hk⟩:=eH.mp hc;exact(DW S X Y R hk he).1
theorem U4(i:Nat)(v:V):oL aR w K KF B mg mb d (.glo i v):=λP aQ A ex e Z T s Q hc X r Y R he=>by
 refine ry hc λx z hc=>?_;obtain⟨g,hg,h⟩:=JF hc;exact Gu S X R (Qv h▸hg) λval hv=>Bk.now (s:=s) (t:=s.toks) he R hv.bL
theorem Tx{a b:E}(ha:oL aR w K KF B mg mb d a)(hb:oL aR w K KF B mg mb d b):oL aR w K KF B mg mb d (.and a b):=λP aQ A ex e Z T s Q hc X r Y R he=>by
 refine Da hc λo xs pos hc=>?_;rw[cy (bl hc)];refine oh (br hc) λx ys hc=>oh hc λy rr hc=>?_;refine BoolOp_and (s7 (ha P aQ A x e Z T s _ (bl (bl (bl hc))) X r Y R he) λv aM aW val s1 q p=>?_);obtain⟨t,ht,q⟩:=tH q;refine BW p.rel p.val ht (Aq q (λu q=>?_) λu q=>Bk.at_ p q) rfl;have h:=up p (hb P aQ A _ e aW aM s1 _ (br (bl hc)) X r (Y.on p) p.rel q);cases rr with
 | nil=>exact h
 | cons z zs=>exact h
theorem X3{a b:E}(ha:oL aR w K KF B mg mb d a)(hb:oL aR w K KF B mg mb d b):oL aR w K KF B mg mb d (.or a b):=λP aQ A ex e Z T s Q hc X r Y R he=>by
 refine Da hc λo xs pos hc=>?_;rw[cy (bl hc)];refine oh (br hc) λx ys hc=>oh hc λy rr hc=>?_;refine BoolOp_or (s7 (ha P aQ A x e Z T s _ (bl (bl (bl hc))) X r Y R he) λv aM aW val s1 q p=>?_);obtain⟨t,ht,q⟩:=tH q;refine BW p.rel p.val ht (Aq q (λu q=>Bk.at_ p q) λu q=>?_) rfl;have h:=up p (hb P aQ A _ e aW aM s1 _ (br (bl hc)) X r (Y.on p) p.rel q);cases rr with
 | nil=>exact h
 | cons z zs=>exact h
theorem Tm(ha:oL aR w K KF B mg mb d a):oL aR w K KF B mg mb d (.not a):=λP aQ A ex e Z T s Q hc X r Y R he=>by
 refine MG hc λo x pos hc=>?_;rw[cy (bl (bl hc))];exact UnaryOp_ (s7 (ha P aQ A _ e Z T s _ (br (bl hc)) X r Y R he) λv aM aW val s1 q p=>up p (OI q p.rel p.val))
theorem Vq(ha:oL aR w K KF B mg mb d a):oL aR w K KF B mg mb d (.neg a):=λP aQ A ex e Z T s Q hc X r Y R he=>by
 refine MG hc λo x pos hc=>?_;rw[cy (bl hc)];exact UnaryOp_ (s7 (ha P aQ A _ e Z T s _ (br hc) X r Y R he) λv aM aW val s1 q p=>up p (NP q p.rel p.val))
theorem UC(ha:oL aR w K KF B mg mb d a):oL aR w K KF B mg mb d (.inv a):=λP aQ A ex e Z T s Q hc X r Y R he=>by
 refine MG hc λo x pos hc=>?_;rw[cy (bl hc)];exact UnaryOp_ (s7 (ha P aQ A _ e Z T s _ (br hc) X r Y R he) λv aM aW val s1 q p=>up p (O9 q p.rel p.val))
theorem TR(o:Fk)(ha:oL aR w K KF B mg mb d a)(hb:oL aR w K KF B mg mb d b):oL aR w K KF B mg mb d (.bin o a b):=λP aQ A ex e Z T s Q hc X r Y R he=>by
 refine Rj hc λx op y pos hc=>?_;rw[Nw (br (bl hc))];refine wpAny_BinOp (s7 (ha P aQ A _ e Z T s _ (bl (bl hc)) X r Y R he) λv aM aW val s1 q p=>?_);refine s7 (hb P aQ A _ e aW aM s1 _ (br hc) X r (Y.on p) p.rel q) λv2 aJ bB bI s2 q2 p2=>?_;exact up (p.trans p2) (Oa q2 p2.rel (p.val.mono p2.ext.old) p2.val)
theorem UF{c a b:E}(tc:uQ aR w K KF B mg mb d c)(ha:oL aR w K KF B mg mb d a)(hb:oL aR w K KF B mg mb d b):oL aR w K KF B mg mb d (.ite c a b):=λP aQ A ex e Z T s Q hc X r Y R he=>by
 refine VM hc λt x y pos hc=>?_;refine IfExp_ (Vz (tc P aQ A _ e Z T s _ (bl (bl (bl (bl (bl hc))))) (br (bl (bl (bl (bl hc))))) X r Y R he) λt aM aW s1 q p=>Aq q (λz q=>?_) λet q=>?_)
 .exact up p (ha P aQ A _ e aW aM s1 _ (br (bl (bl (bl hc)))) X r (Y.on p) p.rel q)
 .exact up p (hb P aQ A _ e aW aM s1 _ (br (bl hc)) X r (Y.on p) p.rel q)
theorem Tq(o:Kp)(ha:oL aR w K KF B mg mb d a)(hb:oL aR w K KF B mg mb d b):oL aR w K KF B mg mb d (.cmp a o b):=λP aQ A ex e Z T s Q hc X r Y R he=>by
 refine HT hc λx ps ys pos hc=>oh hc λp' ps hc=>oh hc λy ys hc=>oR (bl (bl (bl (bl (bl hc))))) (oR (br (bl (bl (bl (bl hc))))) ?_);rw[AP (br (bl (bl hc)))];refine wpAny_Compare1 (s7 (ha P aQ A _ e Z T s _ (br (bl (bl (bl hc)))) X r Y R he) λv aM aW val s1 q p=>?_) (AP (br (bl (bl hc)))▸nt (br hc));refine s7 (hb P aQ A _ e aW aM s1 _ (br (bl hc)) X r (Y.on p) p.rel q) λv2 aJ bB bI s2 q2 p2=>?_;obtain⟨t,ht,q2⟩:=tH q2;exact up (p.trans p2) (uo S.con p2.rel r.cmp (p.val.mono p2.ext.old) p2.val ht q2)
omit S M CK in
theorem Jg{a b c:E}{o q:Kp}{x y z:bo}{p p':oe}{ps:List oe}{ys:List bo}{C:List oe->List bo->Prop}
  (hc:(ps.isEmpty&&ys.isEmpty&&chk P a x&&Gs o p&&chk P b y&&Gs q p'&&chk P c z&& !lastMarks [p,p'] [y,z])=b9)
  (f:chk P a x=b9->chk P b y=b9->chk P c z=b9->lastMarks [Jz o,Jz q] [y,z]=cj->C [Jz o,Jz q] [y,z]):C (p::p'::ps) (y::z::ys):=by
 obtain rfl:=AP (br (bl (bl (bl (bl hc)))));obtain rfl:=AP (br (bl (bl hc)));exact oR (C:=λps=>C (_::_::ps) (y::z::ys)) (bl (bl (bl (bl (bl (bl (bl hc))))))) (oR (C:=λys=>C _ (y::z::ys)) (br (bl (bl (bl (bl (bl (bl hc))))))) (f (br (bl (bl (bl (bl (bl hc)))))) (br (bl (bl (bl hc)))) (br (bl hc)) (nt (br hc))))
theorem SZ{a b c:E}(o o2:Kp)(ha:oL aR w K KF B mg mb d a)(hb:oL aR w K KF B mg mb d b)(hc:oL aR w K KF B mg mb d c):oL aR w K KF B mg mb d (.bU a o b o2 c):=by
 exact λP aQ A ex e Z T s Q hk X r Y R he=>by
  refine HT hk λx ps ys pos hk=>oh hk λp' ps hk=>oh hk λp2' ps hk=>oh hk λy ys hk=>oh hk λz ys hk=>Jg (C:=λps ys=>nE (model aR w) A (eval (.Compare x ps ys pos) aQ) (Bk B Z s Q) qH s) hk λc1 c3 c5 c6=>?_;refine Compare_chain (rs:=[]) (ops:=[]) (s7 (ha P aQ A _ e Z T s _ c1 X r Y R he) λv aM aW val s1 q p=>?_) c6;refine chain_link (s7 (hb P aQ A _ e aW aM s1 _ c3 X r (Y.on p) p.rel q) λv2 aJ bB bI s2 q2 p2=>?_);obtain⟨t,ht,q2⟩:=tH q2;refine s7 (uo (Q:=λu T=>u= .bool t/\T=aJ) S.con p2.rel r.cmp (p.val.mono p2.ext.old) p2.val ht ⟨rfl,rfl⟩) λv3 σ3 ρ3 val3 s3 q3 p3=>?_;obtain⟨rfl,rfl⟩:=q3;have pp:=(p.trans p2).trans p3;refine BW p3.rel p3.val (show tr (.bool t)=J t from rfl) (Aq q2 (λj q2=>?_) λet q2=>?_) rfl
  .refine chain_last (s7 (hc P aQ A _ e ρ3 σ3 s3 _ c5 X r (Y.on pp) p3.rel q2) λv4 σ4 ρ4 val4 s4 q4 p4=>?_);obtain⟨t4,ht4,q4⟩:=tH q4;exact up (pp.trans p4) (uo S.con p4.rel r.cmp ((p2.val.mono p3.ext.old).mono p4.ext.old) p4.val ht4 q4)
  .exact Bk.at_ pp (et▸q2)
theorem S4(les:Hx aR w K KF B mg mb d es):oL aR w K KF B mg mb d (.list es):=λP aQ A ex e Z T s Q hc X r Y R he=>by
 refine NE hc λxs pos hc=>?_;refine List_ (Yw (les P aQ A xs pos e Z T s _ hc X r Y R he).2 λvs aM aW aF s1 q p m=>?_);exact up p (Fq p.rel m q.2 (m.length▸q.1))
theorem Uc(les:Hx aR w K KF B mg mb d es):oL aR w K KF B mg mb d (.tup es):=λP aQ A ex e Z T s Q hc X r Y R he=>by
 refine Mc hc λxs k pos hc=>?_;refine Tuple_ (Yw (les P aQ A xs pos e Z T s _ hc X r Y R he).2 λvs aM aW aF s1 q p m=>?_);exact up p (H7 p.rel m q.2 (m.length▸q.1))
theorem UZ(les:Hx aR w K KF B mg mb d es)(hn:oL aR w K KF B mg mb d n):oL aR w K KF B mg mb d (.rep es n):=λP aQ A ex e Z T s Q hc X r Y R he=>by
 refine Rj hc λx op y pos hc=>?_;rw[cy (br (bl hc))];refine NE (bl (bl hc)) λxs pos2 hl=>?_;refine wpAny_BinOp (List_ (Yw (les P aQ A xs pos2 e Z T s _ hl X r Y R he).2 λvs aM aW aF s1 q p m=>?_));refine nU ?_ (by have:=ui;exact cS (m.length▸q.1:aF.length<=1000) (cS ⋯ this));have p1:vU B aW s1 aM .none aW .none {s1 with heap:=s1.heap.push {cls:=.type "list",data:=.seq aF.toArray}}:=⟨.refl _ _,p.rel.push _,.push _ _ _,trivial,rfl,rfl⟩
 have pp:=p.trans p1;refine s7 (hn P aQ A _ e aW aM _ _ (br hc) X r (Y.on pp) pp.rel q.2) λv2 aJ bB bI s2 q2 p2=>?_;obtain⟨k,rfl,q2⟩:=H1 q2;obtain⟨u,rfl⟩:=p2.val.int_inv;have hl:IsL s2.heap s1.heap.objs.size aF.toArray 0:=p2.keep _ _ (IsL.new _ _) (p.rel.fresh (qM _)).1;exact up (pp.trans p2) (Ph p2.rel hl (m.mono p2.ext.old) q2.1 q2.2.1 q2.2.2.1 q2.2.2.2)
omit S M CK in
@[elab_as_elim] theorem JY{elt iter test:E}{i:Nat}{x:bo}{gs:List nY}{sc:nV}{C:List nY->Prop}
  (hc:(oZ gs λg gs=>gs.isEmpty&&uA g.target λt=>g.is_async == 0&&i == P.names.length&& !(g.iter.ctorIdx == 7)&&Lm P t sc&&chk P iter g.iter&&chk {P with inner:=J (t,sc.names)} elt x&&
   ((g.ifs.isEmpty&&C9 test)||oZ g.ifs λc r=>r.isEmpty&&chk {P with inner:=J (t,sc.names)} test c&&Mr test c))=b9)
  (f:∀t tp it ifs,i=P.names.length->(!(it.ctorIdx == 7))=b9->BN P t sc->chk P iter it=b9->chk (P.into t sc) elt x=b9->Be (P.into t sc) test ifs->C [⟨.Name t tp,it,ifs,0⟩]):C gs:=by
 refine oh hc λg gs hc=>oR (bl hc) ?_;obtain⟨tg,it,ifs,as⟩:=g;refine ry (C:=λtg=>C [⟨tg,it,ifs,as⟩]) (br hc) λt tp hc=>?_;obtain rfl:as=0:=cK (bl (bl (bl (bl (bl (bl hc))))));refine f t tp it ifs (cK (br (bl (bl (bl (bl (bl hc))))))) (br (bl (bl (bl (bl hc))))) (Kh (br (bl (bl (bl hc))))) (br (bl (bl hc))) (br (bl hc)) ?_;rcases ew.mp (br hc) with h | h
 .refine .inl ⟨jM.mp (bl h),?_⟩;exact D2 (br h)
 .exact oh (C:=λifs=>Be (P.into t sc) test ifs) h λc r h=>oR (bl (bl h)) (.inr ⟨c,rfl,br (bl h),br h⟩)
theorem RY(i:Nat){elt iter test:E}(hiter:oL aR w K KF B mg mb d iter)(helt:oL aR w K KF B mg mb d elt)(ttest:uQ aR w K KF B mg mb d test):oL aR w K KF B mg mb d (.comp elt i iter test):=λP aQ A ex e Z T s Q hc X r Y R he=>by
 refine ND hc λx gs sc pos hc=>JY hc λt tp it ifs h1 h2 aj h3 h4 h5=>?_;subst h1;rw[eval_ListComp];exact Ew S aj X r Y R h3 h2 hiter h4 helt h5 ttest he λs' aK aL v acc C q p hC oC bC h=>h.elim λm n=>⟨m,n,λh' hs=>Bk.at_ (p.but (s₂:={s' with heap:=h'}) hs.extBut hC oC bC rfl rfl) q⟩
theorem So{es:Es}(i f:Nat)(les:Hx aR w K KF B mg mb d es):oL aR w K KF B mg mb d (.call i f es):=by
 exact λP aQ A ex e Z T s Q hc X r Y R he=>by
  refine wA hc λo xs ks pos hc=>oR (bl hc) (ry (br hc) λx z hc=>?_);obtain⟨g,hg,h⟩:=JF (bl (bl hc));refine nT (Gu S X R (Qv h▸hg) λval hv=>?_);rw[hv.bW];have L:=les P aQ A xs pos e Z T s _ (br hc) X r Y R he;refine callWith_of (P:=λh=>KF.In h) (by rw[L.1];rfl) (keeps_K (X.ft f (List.contains_iff_mem.mp (br (bl hc))))) ?_;exact Mw (Yw L.2 λvs aM aW aF s1 q p m=>⟨S.bV.keeps p.rel.base,up p (CK f vs aM Q q A aW s1 aF r p.rel m)⟩) L.1
theorem Up{a:E}(i:Nat)(ha:oL aR w K KF B mg mb d a):oL aR w K KF B mg mb d (.len i a):=by
 exact λP aQ A ex e Z T s Q hc X r Y R he=>by
  refine wA hc λo xs ks pos hc=>oR (bl hc) (ry (br hc) λx z hc=>oh (br hc) λy ys h=>oR (bl (bl h)) ?_);obtain⟨g,hg,h'⟩:=JF (bl hc);refine nT (xn (g:=.len) S X R (Yj h'▸hg) (λh=>h) ?_);rw[xU (br (bl h))];exact gQ rfl (gB (gR (s7 (ha P aQ A _ e Z T s _ (br h) X r Y R he) λv aM aW val s1 q p=>g8 (up p (OV S.con q p.rel p.val)))))
theorem Vr(i:Nat){a:E}(ha:oL aR w K KF B mg mb d a):oL aR w K KF B mg mb d (.abs i a):=λP aQ A ex e Z T s Q hc X r Y R he=>by
 refine wA hc λo xs ks pos hc=>oR (bl hc) (ry (br hc) λx z hc=>oh (br hc) λy ys h=>oR (bl (bl h)) ?_);obtain⟨g,hg,h'⟩:=JF (bl hc);refine nT (xn (g:=.abs) S X R (X5 h'▸hg) (λh=>h) ?_);rw[xU (br (bl h))];exact gQ rfl (gB (gR (s7 (ha P aQ A _ e Z T s _ (br h) X r Y R he) λv aM aW val s1 q p=>g8 (up p (NV q p.rel p.val)))))
theorem Po(i:Nat){es:Es}(les:Hx aR w K KF B mg mb d es):oL aR w K KF B mg mb d (.range i es):=λP aQ A ex e Z T s Q hc X r Y R he=>by
 refine wA hc λo xs ks pos hc=>oR (bl hc) (ry (br hc) λx z hc=>?_);obtain⟨g,hg,h'⟩:=JF (bl hc);refine nT (xn (g:=.range) S X R (SJ h'▸hg) (λh=>h) ?_);have L:=les P aQ A xs pos e Z T s _ (br hc) X r Y R he;exact PySem.callWith_type L.1 (Mw (Yw L.2 λvs aM aW aF s1 q p m=>up p (IM q p.rel m)) L.1)
theorem Pq(ha:oL aR w K KF B mg mb d a)(hb:oL aR w K KF B mg mb d b):oL aR w K KF B mg mb d (.index a b):=λP aQ A ex e Z T s Q hc X r Y R he=>by
 refine wA hc λo xs ks pos hc=>oR (bl hc) (wf (br hc) λo nm ap hc=>oh hc λy ys hc=>oR (bl (bl (bl (bl (bl (bl hc)))))) ?_);rw[o4 (br (bl (bl (bl (bl (bl hc))))))];have ys:=br (bl (bl hc));refine AQ (br (bl hc)) (br hc) (by rw[xU ys];rfl) lT F.type_list_index (s7 (ha P aQ A _ e Z T s _ (br (bl (bl (bl (bl hc))))) X r Y R he) λv aM aW val s1 q p=>⟨Q4 q.1 p.rel p.val,?_⟩);rw[xU ys];exact gQ rfl (gB (gR (s7 (hb P aQ A _ e aW aM s1 _ (br (bl (bl (bl hc)))) X r (Y.on p) p.rel q.2) λv2 aJ bB bI s2 q2 p2=>g8 (up (p.trans p2) (JI q2 p2.rel (p.val.mono p2.ext.old) p2.val)))))
theorem Lu(ha:oL aR w K KF B mg mb d a)(hb:oL aR w K KF B mg mb d b):oL aR w K KF B mg mb d (.append a b):=λP aQ A ex e Z T s Q hc X r Y R he=>by
 refine wA hc λo xs ks pos hc=>oR (bl hc) (wf (br hc) λo nm ap hc=>oh hc λy ys hc=>oR (bl (bl (bl (bl (bl (bl hc)))))) ?_);rw[o4 (br (bl (bl (bl (bl (bl hc))))))];have ys:=br (bl (bl hc));refine AQ (br (bl hc)) (br hc) (by rw[xU ys];rfl) lA F.type_list_append (s7 (ha P aQ A _ e Z T s _ (br (bl (bl (bl (bl hc))))) X r Y R he) λv aM aW val s1 q p=>⟨Q4 q.1 p.rel p.val,?_⟩);rw[xU ys];exact gQ rfl (gB (gR (s7 (hb P aQ A _ e aW aM s1 _ (br (bl (bl (bl hc)))) X r (Y.on p) p.rel q.2) λv2 aJ bB bI s2 q2 p2=>g8 (up (p.trans p2) (zj (pos:=pos) q2 p2.rel (p.val.mono p2.ext.old) p2.val)))))
theorem Um(ha:oL aR w K KF B mg mb d a):oL aR w K KF B mg mb d (.pop a):=λP aQ A ex e Z T s Q hc X r Y R he=>by
 refine wA hc λo xs ks pos hc=>oR (bl hc) (wf (br hc) λo nm ap hc=>oR (bl (bl (bl (bl hc)))) ?_);rw[o4 (br (bl (bl (bl hc))))];refine AQ (br (bl hc)) (br hc) rfl F.slot_list_pop F.type_list_pop (s7 (ha P aQ A _ e Z T s _ (br (bl (bl hc))) X r Y R he) λv aM aW val s1 q p=>?_);have h:=N0 (aR:=aR) (w:=w) (A:=A) (pos:=pos) q p.rel p.val;exact⟨h.1,up p h.2⟩
theorem Qe(n:Nat)(ha:oL aR w K KF B mg mb d a):oL aR w K KF B mg mb d (.attr a n):=λP aQ A ex e Z T s Q hc X r Y R he=>by
 refine wf hc λo nm pos hc=>?_;rw[o4 (br (bl (bl hc)))];exact Attribute_any_ (s7 (ha P aQ A _ e Z T s _ (br (bl hc)) X r Y R he) λv aM aW val s1 q p=>up p (Fh S.cls S.bV p.rel (cy (bl (bl (bl hc)))) p.val q)) (EJ (C:=λo=>eval (o.Attribute (pK n) pos) aQ=(do let o_1 <-eval o aQ;standAt pos.atName;let r <-holding [o_1] (getAttr o_1 (pK n) b9);letTemporaryGo o o_1 r;pure r)) (br hc) (λz z=>rfl) (λz z z=>rfl) λz z z=>rfl)
theorem Tk(ha:oL aR w K KF B mg mb d a)(hi:oL aR w K KF B mg mb d i):oL aR w K KF B mg mb d (.sub a i):=λP aQ A ex e Z T s Q hc X r Y R he=>by
 refine Ez hc λo sl pos hc=>?_;refine Subscript_ (s7 (ha P aQ A _ e Z T s _ (bl (bl hc)) X r Y R he) λv aM aW val s1 q p=>?_);refine s7 (hi P aQ A _ e aW aM s1 _ (br (bl hc)) X r (Y.on p) p.rel q) λv2 aJ bB bI s2 q2 p2=>?_;exact up (p.trans p2) (Pw S.con p2.rel (p.val.mono p2.ext.old) p2.val (RH (br hc)) q2)
omit S M CK in
theorem Eo(sc:oL aR w K KF B mg mb d c)(h:vv l (JL c) (λl=>chk P c l)=b9)(X:uR KF mg mb P aQ)(r:uH A d)(Y:qD P aQ B Z e s.heap)(R:pA B Z T s.heap)(he:ev K c e T Q):
  nE (model aR w) A (evalPart l aQ) (Bk B Z s Q) qH s:=by
 cases l with
 | some l=>exact sc P aQ A l e Z T s Q h X r Y R he
 | none=>
  cases Kd h;exact nJ (Bk.none (t:=s.toks) R he)
theorem Pk{a lo hi:E}(ha:oL aR w K KF B mg mb d a)(hlo:oL aR w K KF B mg mb d lo)(hhi:oL aR w K KF B mg mb d hi):oL aR w K KF B mg mb d (.slice a lo hi):=by
 exact λP aQ A ex e Z T s Q hc X r Y R he=>by
  refine Ez hc λo sl pos hc=>Rr hc λl u st sp hc=>?_;rw[eu.mp (br (bl (bl hc)))];refine wpAny_Subscript_Slice (T:="list") list_getitem_lookup (s7 (ha P aQ A _ e Z T s _ (bl (bl (bl (bl hc)))) X r Y R he) λv aM aW val s1 q p=>?_) ?_
  case refine_2=>exact Expr.Name.elim (motive_1:=λo=>∀ov rv,letTemporaryGo o ov rv=pure ()) o (cK (br (bl (bl (bl hc))))) λy y y y=>rfl
  refine wpAny_Slice (s7 (Eo hlo (br (bl hc)) X r (Y.on p) p.rel q) λv2 aJ bB bI s2 q2 p2=>?_);refine s7 (Eo hhi (br hc) X r (Y.on (p.trans p2)) p2.rel q2) λv3 σ3 ρ3 val3 s3 q3 p3=>?_;rw[evalPart_none];have h:=JD (aR:=aR) (w:=w) (A:=A) S.con q3 p3.rel ((p.val.mono p2.ext.old).mono p3.ext.old) (p2.val.mono p3.ext.old) p3.val;exact nJ ⟨h.2,nL h.1 (λy y z=>z.of ((p.trans p2).trans p3)) λy y x=>x.elim⟩
theorem R6(ta:uQ aR w K KF B mg mb d a):uQ aR w K KF B mg mb d (.not a):=λP aQ A ex e Z T s af hc z X r Y R he=>by
 refine MG hc λo x pos hc=>?_;rw[cy (bl (bl hc))];exact isTrue_not (Vz (ta P aQ A _ e Z T s (λt h=>af (!t) h) (br (bl hc)) (br hc) X r Y R (jp M a (λv h x=>p0 (λb y=>y) x) he)) λt aM aW s1 q p=>Bk.at_ (p.bA (show VR aW (.bool !t) (.bool !t) from rfl)) ⟨rfl,q⟩)
omit S M CK in
theorem Jd(f:∀t,tr v=J t->X t->Y t)(h:yo (tr v) X):yo (tr v) Y:=by
 cases e:tr v with
 | none=>rw[e] at h;exact h
 | some t=>rw[e] at h;exact f t e h
theorem P7{a b:E}(ta:uQ aR w K KF B mg mb d a)(tb:uQ aR w K KF B mg mb d b):uQ aR w K KF B mg mb d (.and a b):=by
 exact λP aQ A ex e Z T s af hc u X r Y R he=>by
  refine Da hc λo xs pos hc=>?_;rw[cy (bl hc)];refine oh (br hc) λx ys hc=>oh hc λy rr hc=>?_;refine isTrue_and (Vz (ta P aQ A _ e Z T s (λt h=>wT t (ev K b e h λv T=>yo (tr v) λt=>af t T) (af t h)) (bl (bl (bl hc))) (br (bl (bl hc))) X r Y R (jp M a (λv h x=>Jd (λt ht=>rx id λx=>?_) x) he)) λt aM aW s1 q p=>?_)
  .exact Sd ht x
  .refine Aq q (λu q=>?_) λet q=>?_
   .cases rr with
    | nil=>exact UO (Ys p (tb P aQ A _ e aW aM s1 af (br (bl hc)) (br hc) X r (Y.on p) p.rel q))
    | cons z zs=>exact Ys p (tb P aQ A _ e aW aM s1 af (br (bl hc)) (br hc) X r (Y.on p) p.rel q)
   .exact Bk.at_ (et▸p) ⟨rfl,et▸q⟩
theorem UK{a b:E}(ta:uQ aR w K KF B mg mb d a)(tb:uQ aR w K KF B mg mb d b):uQ aR w K KF B mg mb d (.or a b):=λP aQ A ex e Z T s af hc u X r Y R he=>by
 refine Da hc λo xs pos hc=>?_;rw[cy (bl hc)];refine oh (br hc) λx ys hc=>oh hc λy rr hc=>?_;refine isTrue_or (Vz (ta P aQ A _ e Z T s (λt h=>wT t (af t h) (ev K b e h λv T=>yo (tr v) λt=>af t T)) (bl (bl (bl hc))) (br (bl (bl hc))) X r Y R (jp M a (λv h x=>Jd (λt ht=>rx (λx=>?_) id) x) he)) λt aM aW s1 q p=>?_)
 .exact Sd ht x
 .refine Aq q (λet q=>?_) λet q=>?_
  .exact Bk.at_ (et▸p) ⟨rfl,et▸q⟩
  .cases rr with
   | nil=>exact W9 (Ys p (tb P aQ A _ e aW aM s1 af (br (bl hc)) (br hc) X r (Y.on p) p.rel q))
   | cons z zs=>exact Ys p (tb P aQ A _ e aW aM s1 af (br (bl hc)) (br hc) X r (Y.on p) p.rel q)
theorem QW{c a b:E}(tc:uQ aR w K KF B mg mb d c)(ta:uQ aR w K KF B mg mb d a)(tb:uQ aR w K KF B mg mb d b):uQ aR w K KF B mg mb d (.ite c a b):=λP aQ A ex e Z T s af hc z X r Y R he=>by
 refine VM hc λt x y pos hc=>?_;refine isTrue_IfExp (Vz (tc P aQ A _ e Z T s _ (bl (bl (bl (bl (bl hc))))) (br (bl (bl (bl (bl hc))))) X r Y R he) λt aM aW s1 q p=>Aq q (λz q=>?_) λz q=>?_)
 .exact Ys p (ta P aQ A _ e aW aM s1 _ (br (bl (bl (bl hc)))) (br (bl (bl hc))) X r (Y.on p) p.rel q)
 .exact Ys p (tb P aQ A _ e aW aM s1 _ (br (bl hc)) (br hc) X r (Y.on p) p.rel q)
omit S M CK in
theorem Md.fin{val:nr}{b:Bool}{af:Bool->H->Prop}(p:vU B Z s aK v aL val s')(q:af b aK):Md B Z s af b s':=Bk.at_ (p.bA (show VR aL (.bool b) (.bool b) from rfl)) ⟨rfl,q⟩
theorem RU(o:Kp)(ha:oL aR w K KF B mg mb d a)(hb:oL aR w K KF B mg mb d b):uQ aR w K KF B mg mb d (.cmp a o b):=by
 exact λP aQ A ex e Z T s af hc z X r Y R he=>by
  refine HT hc λx ps ys pos hc=>oh hc λp' ps hc=>oh hc λy ys hc=>oR (bl (bl (bl (bl (bl hc))))) (oR (br (bl (bl (bl (bl hc))))) ?_);rw[AP (br (bl (bl hc)))];refine wpAny_isTrue_Compare1 (s7 (ha P aQ A _ e Z T s _ (br (bl (bl (bl hc)))) X r Y R he) λv aM aW val s1 q p=>?_) (AP (br (bl (bl hc)))▸nt (br hc));refine s7 (hb P aQ A _ e aW aM s1 _ (br (bl hc)) X r (Y.on p) p.rel q) λv2 aJ bB bI s2 q2 p2=>?_;obtain⟨t,ht,q2⟩:=tH q2;refine s7 (uo (Q:=λu T=>u= .bool t/\af t T) S.con p2.rel r.cmp (p.val.mono p2.ext.old) p2.val ht ⟨rfl,q2⟩) λv3 σ3 ρ3 val3 s3 q3 p3=>?_;exact BW p3.rel p3.val (show tr v3=J t from q3.1▸rfl) (Md.fin ((p.trans p2).trans p3) q3.2) rfl
theorem N8{a b c:E}(o o2:Kp)(ha:oL aR w K KF B mg mb d a)(hb:oL aR w K KF B mg mb d b)(hc:oL aR w K KF B mg mb d c):uQ aR w K KF B mg mb d (.bU a o b o2 c):=by
 exact λP aQ A ex e Z T s af hk j X r Y R he=>by
  refine HT hk λx ps ys pos hk=>oh hk λp' ps hk=>oh hk λp2' ps hk=>oh hk λy ys hk=>oh hk λz ys hk=>Jg (C:=λps ys=>nE (model aR w) A (isTrue (.Compare x ps ys pos) aQ (eval (.Compare x ps ys pos) aQ)) (Md B Z s af) qH s) hk λc1 c3 c5 c6=>?_;refine isTrue_chain (rs:=[]) (ops:=[]) (s7 (ha P aQ A _ e Z T s _ c1 X r Y R he) λv aM aW val s1 q p=>?_) c6;refine test_link (s7 (hb P aQ A _ e aW aM s1 _ c3 X r (Y.on p) p.rel q) λv2 aJ bB bI s2 q2 p2=>?_);obtain⟨t,ht,q2⟩:=tH q2;refine s7 (uo (Q:=λu T=>u= .bool t/\T=aJ) S.con p2.rel r.cmp (p.val.mono p2.ext.old) p2.val ht ⟨rfl,rfl⟩) λv3 σ3 ρ3 val3 s3 q3 p3=>?_;obtain⟨rfl,rfl⟩:=q3;have pp:=(p.trans p2).trans p3;refine BW p3.rel p3.val (show tr (.bool t)=J t from rfl) (Aq q2 (λj q2=>?_) λet q2=>?_) rfl
  .refine test_last (s7 (hc P aQ A _ e ρ3 σ3 s3 _ c5 X r (Y.on pp) p3.rel q2) λv4 σ4 ρ4 val4 s4 q4 p4=>?_);obtain⟨t4,ht4,q4⟩:=tH q4;refine s7 (uo (Q:=λu T=>u= .bool t4/\af t4 T) S.con p4.rel r.cmp ((p2.val.mono p3.ext.old).mono p4.ext.old) p4.val ht4 ⟨rfl,q4⟩) λv5 σ5 ρ5 val5 s5 q5 p5=>?_;exact BW p5.rel p5.val (show tr v5=J t4 from q5.1▸rfl) (Md.fin ((pp.trans p4).trans p5) q5.2) rfl
  .exact Md.fin pp q2
omit S M CK in
set_option tactic.hygienic true in
theorem Il(h:plX ex=b9):isTrue ex aQ (eval ex aQ)=(do let v <-eval ex aQ;standAt ex.pos;holding [v] (truthy v)):=by
 cases ex<;>first | rfl | exact(dd h).elim | skip
 case UnaryOp op x p=>cases op<;>first | rfl | exact(dd h).elim
omit S M CK in
theorem oW(hp:Wc c=cj)(h:oL aR w K KF B mg mb d c):uQ aR w K KF B mg mb d c:=λP aQ A ex e Z T s af hc ht X r Y R he=>XC (h P aQ A ex e Z T s _ hc X r Y R he) (Il ((ew.mp ht).resolve_left λq=>nomatch hp.symm.trans q))
theorem Qn:Hx aR w K KF B mg mb d .nil:=λP aQ A xs pos e Z T s Q hc X r Y R he=>by
 refine oR hc ?_;exact⟨rfl,g8 ⟨[],T,Z,he,vU.same (t:=s.toks) (d:=s.drawn) R (show VR Z .none .none from trivial),.nil⟩⟩
theorem OP(ha:oL aR w K KF B mg mb d a)(les:Hx aR w K KF B mg mb d es):Hx aR w K KF B mg mb d (.cons a es):=λP aQ A xs pos e Z T s Q hc X r Y R he=>by
 refine⟨Nu hc,?_⟩;refine oh hc λx xs hc=>?_;rw[vi (vH (bl (bl hc))),xq];refine gR (s7 (ha P aQ A x e Z T s _ (br (bl hc)) X r Y R he) λv aM aW val s1 q p=>?_);exact Yw (les P aQ A xs pos e aW aM s1 _ (br hc) X r (Y.on p) p.rel q).2 λvs aJ bB aF s2 q2 p2 m2=>⟨v::vs,aJ,bB,q2,p.trans p2,.cons (p.val.mono p2.ext.old) m2⟩
end
mutual
theorem oF(S:BV K KF B mg mb)(M:K.aV)(CK:qF aR w K B d):∀c:E,oL aR w K KF B mg mb d c/\uQ aR w K KF B mg mb d c
 | .bK=>have h:=Ty S M CK ;⟨h,oW rfl h⟩
 | .bool b=>have h:=ST S M CK b ;⟨h,oW rfl h⟩
 | .int i=>have h:=UX S M CK i ;⟨h,oW rfl h⟩
 | .str i=>have h:=UB S M CK i ;⟨h,oW rfl h⟩
 | .loc i=>have h:=Vj S M CK i ;⟨h,oW rfl h⟩
 | .glo i v=>have h:=U4 S M CK i v ;⟨h,oW rfl h⟩
 | .and a b=>⟨Tx S M CK (oF S M CK a).1 (oF S M CK b).1,P7 S M CK (oF S M CK a).2 (oF S M CK b).2⟩
 | .or a b=>⟨X3 S M CK (oF S M CK a).1 (oF S M CK b).1,UK S M CK (oF S M CK a).2 (oF S M CK b).2⟩
 | .not a=>⟨Tm S M CK (oF S M CK a).1,R6 S M CK (oF S M CK a).2⟩
 | .neg a=>have h:=Vq S M CK (oF S M CK a).1;⟨h,oW rfl h⟩
 | .inv a=>have h:=UC S M CK (oF S M CK a).1;⟨h,oW rfl h⟩
 | .bin o a b=>have h:=TR S M CK o (oF S M CK a).1 (oF S M CK b).1;⟨h,oW rfl h⟩
 | .ite c a b=>⟨UF S M CK (oF S M CK c).2 (oF S M CK a).1 (oF S M CK b).1,QW S M CK (oF S M CK c).2 (oF S M CK a).2 (oF S M CK b).2⟩
 | .cmp a o b=>⟨Tq S M CK o (oF S M CK a).1 (oF S M CK b).1,RU S M CK o (oF S M CK a).1 (oF S M CK b).1⟩
 | .bU a o b o2 c=>⟨SZ S M CK o o2 (oF S M CK a).1 (oF S M CK b).1 (oF S M CK c).1,N8 S M CK o o2 (oF S M CK a).1 (oF S M CK b).1 (oF S M CK c).1⟩
 | .list es=>have h:=S4 S M CK (O7 S M CK es);⟨h,oW rfl h⟩
 | .tup es=>have h:=Uc S M CK (O7 S M CK es);⟨h,oW rfl h⟩
 | .rep es n=>have h:=UZ S M CK (O7 S M CK es) (oF S M CK n).1;⟨h,oW rfl h⟩
 | .comp elt i iter test=>have h:=RY S M CK i (oF S M CK iter).1 (oF S M CK elt).1 (oF S M CK test).2;⟨h,oW rfl h⟩
 | .call i f es=>have h:=So S M CK i f (O7 S M CK es);⟨h,oW rfl h⟩
 | .len i a=>have h:=Up S M CK i (oF S M CK a).1;⟨h,oW rfl h⟩
 | .abs i a=>have h:=Vr S M CK i (oF S M CK a).1;⟨h,oW rfl h⟩
 | .range i es=>have h:=Po S M CK i (O7 S M CK es);⟨h,oW rfl h⟩
 | .index a b=>have h:=Pq S M CK (oF S M CK a).1 (oF S M CK b).1;⟨h,oW rfl h⟩
 | .append a b=>have h:=Lu S M CK (oF S M CK a).1 (oF S M CK b).1;⟨h,oW rfl h⟩
 | .pop a=>have h:=Um S M CK (oF S M CK a).1;⟨h,oW rfl h⟩
 | .attr a n=>have h:=Qe S M CK n (oF S M CK a).1;⟨h,oW rfl h⟩
 | .sub a i=>have h:=Tk S M CK (oF S M CK a).1 (oF S M CK i).1;⟨h,oW rfl h⟩
 | .slice a lo hi=>have h:=Pk S M CK (oF S M CK a).1 (oF S M CK lo).1 (oF S M CK hi).1;⟨h,oW rfl h⟩
theorem O7(S:BV K KF B mg mb)(M:K.aV)(CK:qF aR w K B d):∀c:Es,Hx aR w K KF B mg mb d c
 | .nil=>Qn S M CK
 | .cons a es=>OP S M CK (oF S M CK a).1 (O7 S M CK es)
end
theorem KM(S:BV K KF B mg mb)(M:K.aV)(CK:qF aR w K B d)(c:E):oL aR w K KF B mg mb d c:=(oF S M CK c).1
theorem WE(S:BV K KF B mg mb)(M:K.aV)(CK:qF aR w K B d)(c:E):uQ aR w K KF B mg mb d c:=(oF S M CK c).2
end
end
section
open PySem PySem.W PyProof.Rows PySem.SeqAt
def Vy(aQ:eC)(a:Addr):Prop:=a=aQ.locals\/∃x,aQ.cells.lookup x=J a
def Bh(aQ:eC)(Z:tv)(h h':Heap):Prop:=∀b o,h.get? b=J o->BU Z b->¬Vy aQ b->h'.get? b=J o
structure uP (P:Pm) (aQ:eC) (B:Heap) (Z:tv) (s:nB) (e':Mine.Lake.nw) (aK:H) (aL:tv) (s':nB):Prop where
 ext:we Z aL s.heap
 rel:pA B aL aK s'.heap
 keep:Bh aQ Z s.heap s'.heap
 bG:qD P aQ B aL e' s'.heap
 gens:s'.gens=s.gens
 os:s'.os=s.os
def PF(P:Pm)(aQ:eC)(B:Heap)(Z:tv)(s:nB)(Q:Mine.Lake.nw->H->Prop)(s':nB):Prop:=∃e' aK aL,Q e' aK/\uP P aQ B Z s e' aK aL s'
def FlR(Z:tv):Fl->Flow->Prop
 | .next,.next=>True
 | .brk,.brk=>True
 | .ret v,.ret val=>VR Z v val
 | _,_=>False
@[elab_as_elim] theorem Ej{C:Fl->Flow->Prop}{f:Fl}{fl:Flow}(r:FlR Z f fl)(n:C .next .next)(b:C .brk .brk)(c:∀v val,VR Z v val->C (.ret v) (.ret val)):C f fl:=by
 cases f<;>cases fl<;>first | exact(r:False).elim | exact n | exact b | exact c _ _ r
def LS(P:Pm)(aQ:eC)(B:Heap)(Z:tv)(s:nB)(Q:QS)(fl:Flow)(s':nB):Prop:=∃f e' aK aL,Q f e' aK/\uP P aQ B Z s e' aK aL s'/\FlR aL f fl
section
variable{aR:nN}{w:dw}{K:pN}{KF:Frag}{B:Heap}{mg mb:Str->Option nr}{d:Nat}
variable{A:nQ}{aQ:eC}{P:Pm}{e e' e'':Mine.Lake.nw}{Z aL ρ'':tv}{T aK σ'':H}{s s' s'':nB}{Q:V->H->Prop}
theorem qD.alive(Y:qD P aQ B Z e h)(f:Vy aQ a):∃o,h.get? a=J o:=by
 rcases f with rfl | ⟨x,hx⟩
 .obtain⟨m,n,_⟩:=Y.m;exact EP n
 .obtain⟨w,⟨o,ho,_⟩,_⟩:=Y.cel x a hx;exact⟨o,ho⟩
theorem we.transF(x:we Z aL h)(y:we aL ρ'' h')(k:Bh aQ Z h h')(Y:qD P aQ B aL e h')(sp:Sep ρ''):we Z ρ'' h:=by
 refine⟨λi p e=>y.old i p (x.old i p e),λi p hi e=>?_⟩;by_cases q:i<aL.length
 .have e1:=y.old i _ (a7 q);rw[e1] at e;exact x.new i p hi ((a7 q).trans e)
 .have z:=y.new i p (d7 q) e;have key:∀a,(a=p.1\/a=p.2)->h'.get? a=U->h.get? a=U:=λa ha hn=>by
   cases g:h.get? a with
   | none=>rfl
   | some o=>
    by_cases hf:Vy aQ a
    .obtain⟨o',ho'⟩:=Y.alive hf;rw[ho'] at hn;cases hn
    .by_cases ho:BU Z a
     .rw[k a o g ho hf] at hn;cases hn
     .obtain⟨j,r,hj,hr⟩:=HN ho;have hj':=y.old j r (x.old j r hj);have ne:i≠j:=λt=>by subst t;exact cJ (f0 hj) (fX.mpr hi)
      have s:=sp i j p r e hj' ne;rcases ha with rfl | rfl<;>rcases hr with hr | hr
      .exact cJ hr s.1
      .exact cJ hr s.2.1
      .exact cJ hr s.2.2.1
      .exact cJ hr s.2.2.2
  exact⟨key _ (.inl rfl) z.1,key _ (.inr rfl) z.2⟩
theorem Bh.trans(x:Bh aQ Z h h')(y:Bh aQ aL h' h'')(z:we Z aL h):Bh aQ Z h h'':=λb o g n f=>y b o (x b o g n f) (n.ext z g) f
theorem uP.trans(x:uP P aQ B Z s e' aK aL s')(y:uP P aQ B aL s' e'' σ'' ρ'' s''):uP P aQ B Z s e'' σ'' ρ'' s'':=
 ⟨x.ext.transF y.ext x.keep x.bG y.rel.sep,y.rel,x.keep.trans y.keep x.ext,y.bG,y.gens.trans x.gens,y.os.trans x.os⟩
theorem vU.toS{val:nr}(p:vU B Z s aK v aL val s')(Y:qD P aQ B Z e s.heap):uP P aQ B Z s e aK aL s':=⟨p.ext,p.rel,λb o g n w=>p.keep b o g n,Y.on p,p.gens,p.os⟩
theorem uP.same(R:pA B Z T s.heap)(Y:qD P aQ B Z e s.heap):uP P aQ B Z s e T Z s:=⟨.refl _ _,R,λw w g w w=>g,Y,rfl,rfl⟩
theorem PF.of{Q:Mine.Lake.nw->H->Prop}(p:uP P aQ B Z s e' aK aL s')(h:PF P aQ B aL s' Q s''):PF P aQ B Z s Q s'':=by
 ext B aQ P e' Z aL aK s s' s'' Q;obtain⟨e2,aJ,bB,q,p2⟩:=h;exact⟨e2,aJ,bB,q,p.trans p2⟩
theorem LS.of{Q:QS}(p:uP P aQ B Z s e' aK aL s')(h:LS P aQ B aL s' Q fl s''):LS P aQ B Z s Q fl s'':=by
 obtain⟨f,e2,aJ,bB,q,p2,r⟩:=h;exact⟨f,e2,aJ,bB,q,p.trans p2,r⟩
theorem upE{M:Model}{t:Sem α}{Q:Mine.Lake.nw->H->Prop}(p:uP P aQ B Z s e' aK aL s')(h:nE M A t (λw s2=>PF P aQ B aL s' Q s2) qH s'):nE M A t (λw s2=>PF P aQ B Z s Q s2) qH s':=nL h (λw w x=>x.of p) λw w x=>x
theorem upS{t:Sem Flow}{Q:QS}(p:uP P aQ B Z s e' aK aL s')(h:nE M A t (LS P aQ B aL s' Q) qH s'):nE M A t (LS P aQ B Z s Q) qH s':=nL h (λw w x=>x.of p) λw w x=>x
theorem uP.but(p:uP P aQ B Z s e' aK aL s')(hs:gK a s'.heap s2.heap)(n:s.heap.get? a=U)(o:BU aL a)(b:B.get? a=U)(f:¬Vy aQ a)(hg:s2.gens=s'.gens)(ho:s2.os=s'.os):uP P aQ B Z s e' aK aL s2:=
 ⟨p.ext,p.rel.extBut hs o b,λc ob g n' f'=>hs c ob (λt=>by rw[t,n] at g;cases g) (p.keep c ob g n' f'),p.bG.but hs (λq=>f (.inl q)) (λx c hc q=>f (.inr ⟨x,q▸hc⟩)),hg.trans p.gens,ho.trans p.os⟩
theorem Ad{x:Str}{v:V}(ap:∀j,P.nm[j]? =J x->j=i)(h3:P.nm[i]? =J x){j:Nat}{y:Str}{u:V}(a:P.nm[j]? =J y)(b:(e.set i (J v))[j]? =J (J u)){C:Prop}(c1:y=x->v=u->C)(c2:y≠x->e[j]? =J (J u)->C):C:=
 (t9 b).elim (λh=>c1 (ss a (h.1▸h3)) (cL h.2.1).symm) λh=>c2 (λz=>h.1 (ap j (z▸a)).symm) h.2
theorem yS{x:Str}{k:nH}{v:V}{val:nr}{Q:Mine.Lake.nw->H->Prop}(X:uR KF mg mb P aQ)(hin:P.inner=U)(Y:qD P aQ B Z e s.heap)(R:pA B Z T s.heap)(hk:P.kind i x=J k)(hv:VR Z v val)(q:Q (e.set i (J v)) T):
  nE (model aR w) A (storeName aQ x val) (λr s'=>PF P aQ B Z s Q s') qH s:=by
 revert Z T s i x k v val Q;ext aR w KF B mg mb A aQ P e;ext Z T s i x k v val Q;have h3:=(X.ks i x k hk).2.2;have ap:=X.apart i x k hk (.inl hin);have h1:=(X.ks i x k hk).1;refine Y.m.elim λm n=>(NC hk).elim (λe=>?_) λe=>?_
 .rw[e] at h1;refine wpAny_storeName_local h1 n.1 (λh' hn hs=>⟨_,T,Z,q,.refl _ _,R.sameBut hs Y.own.1 Y.own.2,λb o g r f=>(hs.2 b λz=>f (.inl z)).trans g,?_,rfl,rfl⟩) (by rw[X.kind];rfl);exact⟨⟨_,hn,λj y u a b c=>Ad ap h3 a b (λz1 z2=>⟨val,cG z1,z2▸hv⟩) λz1 z2=>(n.2 j y u a z2 c).elim λw h=>⟨w,(cH z1).trans h.1,h.2⟩⟩,
   λy c hc=>(Y.cel y c hc).elim λw' h=>⟨w',h.1.elim λoc ho=>⟨oc,(hs.2 c (Y.bJ y c hc).2.2).trans ho.1,ho.2⟩,λj u a b c'=>Ad ap h3 a b (λz r=>nomatch ss h1 ((cI aQ.kindOf z).symm.trans c')) λr z2=>h.2 j u a z2 c'⟩,Y.own,Y.bJ,Y.apart⟩
 .rw[e] at h1 hk;refine(eH.mp (X.cs i x hk)).elim λc hc=>(Y.cel x c hc).elim λw0 hw=>?_;have oc:=Y.bJ x c hc;refine wpAny_storeName_cell X.kind h1 hc hw.1 λh' hn hs=>⟨_,T,Z,q,.refl _ _,R.sameBut hs oc.1 oc.2.1,λb o g r f=>(hs.2 b λz=>f (.inr ⟨x,z▸hc⟩)).trans g,?_,rfl,rfl⟩
  refine⟨⟨m,n.1.sameBut hs (dT oc.2.2),λj y u a b c'=>Ad ap h3 a b (λz r=>nomatch ss h1 ((cI aQ.kindOf z).symm.trans c')) λr z2=>n.2 j y u a z2 c'⟩,λy c' hc'=>?_,Y.own,Y.bJ,Y.apart⟩;by_cases z:y=x
  .exact⟨J val,ss hc ((cI (aQ.cells.lookup ·) z).symm.trans hc')▸hn,λj u a b c'=>Ad ap h3 a b (λr z2=>⟨val,rfl,z2▸hv⟩) λz1 r=>cJ z z1⟩
  .exact(Y.cel y c' hc').elim λw' h=>⟨w',h.1.elim λo1 ho=>⟨o1,(hs.2 c' λt=>z (Y.apart y x c' hc' (t▸hc))).trans ho.1,ho.2⟩,λj u a b c2=>Ad ap h3 a b (λz2 r=>cJ z2 z) λr z2=>h.2 j u a z2 c2⟩
theorem BP{pos:Pos}{val:nr}{M:Model}{k:Unit->nB->Prop}{E:nr->nB->Prop}(h:nE M A (storeName aQ x val) k E s):nE M A (assign (.Name x pos) aQ val) k E s:=wpAny_assign_Name h
theorem uI(h:∀y p,tg≠.Starred y p)(r:List bo):assignEach (tg::r) aQ=(cj,assign tg aQ)::assignEach r aQ:=by
 cases tg<;>first | rfl | exact cJ rfl (h _ _)
theorem JK:∀y q,PySem.Expr.Name x p≠.Starred y q:=λw w q=>nomatch q
theorem Gr:∀(is:List Nat) {xs:List bo},My P is xs=b9->(assignEach xs aQ).length=is.length/\(assignEach xs aQ).findIdx? (·.1)=U
 | [],xs,h=>oR (C:=λxs=>(assignEach xs aQ).length=0/\(assignEach xs aQ).findIdx? (·.1)=U) h ⟨rfl,rfl⟩
 | i::is,xs,h=>oh (C:=λxs=>(assignEach xs aQ).length=is.length+1/\(assignEach xs aQ).findIdx? (·.1)=U) h λx xs h=>ry (C:=λx=>(assignEach (x::xs) aQ).length=is.length+1/\(assignEach (x::xs) aQ).findIdx? (·.1)=U) (bl h) λx p w=>by
  have ih:=Gr is (br h);rw[uI JK];exact⟨cI (·+1) ih.1,by rw[List.findIdx?_cons,cH (show ¬(cj=b9) from dd),ih.2];rfl⟩
theorem Iq(X:uR KF mg mb P aQ)(hin:P.inner=U)(is:List Nat):∀{xs:List bo} {vs:List V} {aF:List nr} {e:Mine.Lake.nw} {Z:tv} {s:nB} {Q:Mine.Lake.nw->H->Prop},My P is xs=b9->vs.length=is.length->qD P aQ B Z e s.heap->pA B Z T s.heap->qX Z vs aF->
  Q (AG is vs e) T->nE (model aR w) A (assignInOrder ((assignEach xs aQ).map (·.2)) aF) (λz s'=>PF P aQ B Z s Q s') qH s:=by
 induction is with
 | nil=>
  intro xs vs aF e Z s Q h hl Y R m q;refine oR h ?_;exact assignInOrder_nil ⟨_,_,_,q,.same R Y⟩
 | cons i is ih=>
  intro xs vs aF e Z s Q h hl Y R m q;refine oh h λx xs h=>ry (bl h) λx p hk=>?_;obtain⟨k,hk⟩:=eH.mp hk;cases m with
  | nil=>cases hl
  | @cons v val vs aF hv m=>
   rw[uI JK,dA];refine assignInOrder_cons (BP (nL (yS (Q:=λe' aK=>e'=e.set i (J v)/\aK=T) X hin Y R hk hv ⟨rfl,rfl⟩) (λz s1 h1=>?_) λz z x=>x));obtain⟨e1,aM,aW,⟨rfl,rfl⟩,p1⟩:=h1;exact upE p1 (ih (br h) (gy hl) p1.bG p1.rel (m.mono p1.ext.old) q)
theorem J6:assign (.Attribute o n pos) aQ val=(do
   let ov <-holding [val] (eval o aQ)
   standAt pos.atName
   holding [val,ov] (setAttr ov n val)
   release [val,ov] []):=rfl
theorem LG{tg:bo}{v:V}{val:nr}{Q:Mine.Lake.nw->H->Prop}(S:BV K KF B mg mb)(X:uR KF mg mb P aQ)(hin:P.inner=U)(r:uH A d)(Y:qD P aQ B Z e s.heap)(R:pA B Z T s.heap)(hc:G9 P (.tup is) tg=b9)(hv:VR Z v val)(he:tM K (.tup is) v e T Q):nE (model aR w) A (assign tg aQ val) (λz s'=>PF P aQ B Z s Q s') qH s:=by
 refine Mc hc λxs k pos hc=>?_;obtain⟨vs,q,hl,he⟩:=MP (f:=λvs=>vs.length=is.length/\Q (AG is vs e) T) he;obtain⟨a,aF,rfl,ht,m⟩:=DH S.con R hv q;have hn:=Gr (aQ:=aQ) is hc;refine assign_Tuple_tuple r.1 ht (by rw[hn.1,<-hl,m.length];rfl) hn.2 λh' hs=>?_;have no:=qM s.heap;have fr:=R.fresh no;have p:uP P aQ B Z s e T Z {s with heap:=h'}:=(uP.same R Y).but (s2:={s with heap:=h'}) hs no fr.1 fr.2 (λf=>(Y.alive f).elim λo ho=>sn ho no) rfl rfl;exact upE p (Iq X hin is hc hl p.bG p.rel m he)
theorem xe{tg:bo}{v:V}{val:nr}{Q:Mine.Lake.nw->H->Prop}(S:BV K KF B mg mb)(M:K.aV)(CK:qF aR w K B d)(X:uR KF mg mb P aQ)(hin:P.inner=U)(r:uH A d)(Y:qD P aQ B Z e s.heap)(R:pA B Z T s.heap)(hc:G9 P t tg=b9)(hv:VR Z v val)(he:tM K t v e T Q):nE (model aR w) A (assign tg aQ val) (λz s'=>PF P aQ B Z s Q s') qH s:=by
 cases t with
 | loc i=>
  refine ry hc λx pos hc=>?_;obtain⟨k,hk⟩:=eH.mp hc;exact BP (yS X hin Y R hk hv he)
 | tup is=>exact LG S X hin r Y R hc hv he
 | attr a n=>
  refine wf hc λo nm pos hc=>?_;rw[o4 (br (bl hc)),J6];refine nu (nR (s7 (KM S M CK a P aQ A o e Z T s _ (br hc) X r Y R he) λv2 aJ bB bI s2 q2 p2=>?_));refine nu (nZ (nu (nR (nL (yi S.cls S.bV p2.rel (cy (bl (bl hc))) p2.val (hv.mono p2.ext.old) q2) (λz s3 h3=>wpAny_release' ?_) λz z x=>x))));obtain⟨v3,σ3,q3,ρ3,p3⟩:=h3;exact⟨e,σ3,ρ3,q3,(p2.trans p3).toS Y⟩
 | sub a i=>
  refine Ez hc λo sl pos hc=>?_;rw[assign_Subscript];refine nu (nR (s7 (KM S M CK a P aQ A o e Z T s _ (bl (bl hc)) X r Y R he) λv2 aJ bB bI s2 q2 p2=>?_));refine nu (nR (s7 (KM S M CK i P aQ A sl e bB aJ s2 _ (br (bl hc)) X r (Y.on p2) p2.rel q2) λv3 σ3 ρ3 val3 s3 q3 p3=>?_));refine nu (nZ (nu (nR (nL (ye p3.rel (p2.val.mono p3.ext.old) p3.val ((hv.mono p2.ext.old).mono p3.ext.old) q3) (λz s4 h4=>wpAny_release' ?_) λz z x=>x))));obtain⟨v4,σ4,q4,ρ4,p4⟩:=h4;exact⟨e,σ4,ρ4,q4,((p2.trans p3).trans p4).toS Y⟩
end
end
section
open PySem PySem.W PyProof.Rows PySem.SeqAt
section
variable{aR:nN}{w:dw}{K:pN}{KF:Frag}{B:Heap}{mg mb:Str->Option nr}{d:Nat}
variable{A:nQ}{aQ:eC}{P:Pm}{e e' e'':Mine.Lake.nw}{Z aL ρ'':tv}{T aK σ'':H}{s s' s'':nB}
abbrev CD(aR:nN)(w:dw)(K:pN)(KF:Frag)(B:Heap)(mg mb:Str->Option nr)(d:Nat)(c:S):Prop:=
 ∀(P:Pm) (aQ:eC) (A:nQ) (st:Stmt) (e:Mine.Lake.nw) (Z:tv) (T:H) (s:nB) (Q:QS),Za P c st=b9->P.inner=U->uR KF mg mb P aQ->uH A d->qD P aQ B Z e s.heap->pA B Z T s.heap->evS K c e T Q->
  nE (model aR w) A (exec st aQ) (LS P aQ B Z s Q) qH s
abbrev B4(aR:nN)(w:dw)(K:pN)(KF:Frag)(B:Heap)(mg mb:Str->Option nr)(d:Nat)(c:Ss):Prop:=
 ∀(P:Pm) (aQ:eC) (A:nQ) (xs:List Stmt) (e:Mine.Lake.nw) (Z:tv) (T:H) (s:nB) (Q:QS),BK P c xs=b9->P.inner=U->uR KF mg mb P aQ->uH A d->qD P aQ B Z e s.heap->pA B Z T s.heap->uO K c e T Q->
  nE (model aR w) A (execs xs aQ) (LS P aQ B Z s Q) qH s
theorem UA{M:Model}{t:Sem α}{E:nr->nB->Prop}{Q:Mine.Lake.nw->H->Prop}{k:α->nB->Prop}(h:nE M A t (λw s'=>PF P aQ B Z s Q s') qH s)(c:∀a e' aK aL s',Q e' aK->uP P aQ B Z s e' aK aL s'->k a s'):nE M A t k E s:=
 nL h (λa s' ⟨e',aK,aL,q,p⟩=>c a e' aK aL s' q p) λw w x=>x.elim
theorem goS{t:Sem Flow}{E:nr->nB->Prop}{Q:QS}{k:Flow->nB->Prop}(h:nE M A t (LS P aQ B Z s Q) qH s)(c:∀f fl e' aK aL s',Q f e' aK->uP P aQ B Z s e' aK aL s'->FlR aL f fl->k fl s'):nE M A t k E s:=
 nL h (λfl s' ⟨f,e',aK,aL,q,p,r⟩=>c f fl e' aK aL s' q p r) λw w x=>x.elim
theorem SB(h:Id val=cj)(tg:Option bo)(ln:Nat):swapsWith val tg ln aQ=pure cj:=by
 cases val<;>first | rfl | exact nomatch h
theorem HZ(h:(!xp val|| !xp tg)=b9)(aQ:eC):swappedStores [tg] val aQ=pure U:=by
 revert aQ;ext val tg;cases tg<;>first | rfl | (cases val<;>first | rfl | exact nomatch h)
theorem goU{M:Model}{t:Sem α}{E:nr->nB->Prop}{Q:V->H->Prop}{u:nr}{k:α->nB->Prop}(h:nE M A t (λw s'=>Bk B Z s Q u s') qH s)(c:∀a v aK aL s',Q v aK->vU B Z s aK v aL u s'->k a s'):nE M A t k E s:=
 nL h (λa s' ⟨v,aK,q,aL,p⟩=>c a v aK aL s' q p) λw w x=>x.elim
theorem DM(h:∀y p,tg≠.Starred y p){M:Model}{val:nr}{k:Unit->nB->Prop}{E:nr->nB->Prop}(x:nE M A (assign tg aQ val) k E s):nE M A (assignAll val ((assignEach [tg] aQ).map (·.2))) k E s:=by
 rw[uI h];exact x
theorem Sx{tg:bo}{k:It}{it:Addr}{vx val:nr}{j:Nat}{q:Unit->nB->Prop}{E:nr->nB->Prop}(hc:G9 P t tg=b9)(hk:IU t k=b9)(I:Ba s.heap it vx j k)(hv:∀is,t= .tup is->∃a,val= .ref a)(h:q () s):
  nE (model aR w) A (letOwnedTupleGo tg (.ref it) val) q E s:=by
 cases t with
 | loc i=>exact ry hc λz z z=>nJ h
 | attr a n=>exact wf hc λz z z z=>nJ h
 | sub a i=>exact Ez hc λz z z z=>nJ h
 | tup is=>
  refine Mc hc λxs z z z=>?_;obtain⟨a,rfl⟩:=hv is rfl;cases k with
  | list=>exact I.elim λb I=>wpAny_letOwnedTupleGo_listiter I.2 h
  | tup=>exact nomatch hk
  | aT _ _ _=>exact nomatch hk
theorem F1(C:vB K B)(R:pA B Z T s.heap)(hx:VR Z x vx)(hy:VR Z y vy)(he:GQ (xf K x y T) T Q):nE (model aR w) A (getItem vx vy) (Bk B Z s Q) qH s:=by
 obtain⟨v,e,q⟩:=v8 he;obtain⟨i,xs,rfl,q1,h,e⟩:=Gj e;obtain⟨u,rfl⟩:=hy.int_inv;obtain⟨a,vs,rfl,hl,m⟩:=Hj C R hx q1;obtain⟨val,g,r⟩:=m.get e;have hlt:i<vs.length:=(jX h.1).mp (f0 g);have fin:Bk B Z s Q val s:=Bk.now q R r (t:=s.toks) (d:=s.drawn);have g':vs.toArray[i.toNat]? =J val:=(gW ..).trans g;have h63:i<2 ^ 63:=gP h.2 ⋯;rcases hl with hl | hl
 .exact wpAny_getItem_list hl h.1 h63 g' fin
 .exact jq (j:=i.toNat) hl (gz ⋯ h.1) h63 (SC h.1 hlt) g' fin
theorem A8(u:nr->Sem Unit):evalThenUse (.ListComp x [⟨.Name t tp,it,ifs,0⟩] sc pos) aQ u=
  (comprehension (.ListComp x [⟨.Name t tp,it,ifs,0⟩] sc pos) sc aQ (firstIterPos [⟨.Name t tp,it,ifs,0⟩] pos) (newList []) cj (eval it aQ) (J u) >>= λw=>pure ()):=by rfl
@[elab_as_elim] theorem Uo{C:E->Prop}(c:E)(h:c.ctorIdx=18)(f:∀a i b d,C (.comp a i b d)):C c:=by
 cases c<;>first | exact f _ _ _ _ | exact cJ h (Nat.ne_of_beq_eq_false rfl)
theorem Iw{tg:bo}{elt iter test:E}{x it:bo}{ifs:List bo}{tn:Str}{tp cpos pos:Pos}{sc:nV}{Q:QS}(Z0:BV K KF B mg mb)(M:K.aV)(CK:qF aR w K B d)(aj:BN P tn sc)(X:uR KF mg mb P aQ)(hin:P.inner=U)(r:uH A d)(Y:qD P aQ B Z e s.heap)(R:pA B Z T s.heap)(c1:G9 P t tg=b9)(ns:∀y p,tg≠.Starred y p)(d3:chk P iter it=b9)(d3':(!(it.ctorIdx == 7))=b9)(d4:chk (P.into tn sc) elt x=b9)(hT:Be (P.into tn sc) test ifs)(hs:swapsWithSole [tg] (.ListComp x [⟨.Name tn tp,it,ifs,0⟩] sc cpos) pos.line aQ=pure b9)(he:ev K (.comp elt P.names.length iter test) e T λv h=>tM K t v e h λe h=>Q .next e h):nE (model aR w) A (exec (.Assign [tg] (.ListComp x [⟨.Name tn tp,it,ifs,0⟩] sc cpos) pos) aQ) (LS P aQ B Z s Q) qH s:=by
 have H:nE (model aR w) A (comprehension (.ListComp x [⟨.Name tn tp,it,ifs,0⟩] sc cpos) sc aQ (firstIterPos [⟨.Name tn tp,it,ifs,0⟩] cpos) (newList []) cj (eval it aQ) (J λv=>assignAll v ((assignEach [tg] aQ).map (·.2))))
   (λz s'=>PF P aQ B Z s (λe T=>Q .next e T) s') qH s:=by
  refine Ew (Qf:=λz s'=>PF P aQ B Z s (λe T=>Q .next e T) s') Z0 aj X r Y R d3 d3' (KM Z0 M CK iter) d4 (KM Z0 M CK elt) hT (WE Z0 M CK test) he λs' aK aL v acc C q p hC oC bC hm=>?_;show nE _ A (assignAll (.ref acc) ((assignEach [tg] aQ).map (·.2))) _ qH s';obtain⟨m,n⟩:=hm;have pS:=p.toS Y;have nF:¬Vy aQ C:=λf=>by obtain⟨o,ho⟩:=Y.alive f;rw[hC] at ho;cases ho
  refine DM ns (UA (xe Z0 M CK X hin r pS.bG p.rel c1 p.val q) λz e2 aJ bB s2 q2 p2=>?_);obtain⟨oC',hoC⟩:=EP n;exact⟨m,n.at' λo g=>p2.keep _ _ g oC nF,λh' hs'=>⟨e2,aJ,bB,q2,(pS.trans p2).but (s2:={s2 with heap:=h'}) hs'.extBut hC (oC.ext p2.ext hoC) bC nF rfl rfl⟩⟩
 rw[exec_Assign_arm];refine nu (nZ ?_);rw[hs];refine nu (nJ ?_);rw[cG rfl,A8];refine nu (nu (nL H (λz s' h=>nJ (nJ ?_)) λz z x=>x));obtain⟨e2,aJ,bB,q2,p2⟩:=h;exact⟨.next,e2,aJ,bB,q2,p2,trivial⟩
theorem Ee(Z0:BV K KF B mg mb)(M:K.aV)(CK:qF aR w K B d){tg val:bo}{c:E}{pos:Pos}{Q:QS}(X:uR KF mg mb P aQ)(hin:P.inner=U)(r:uH A d)(Y:qD P aQ B Z e s.heap)(R:pA B Z T s.heap)
  (c1:G9 P t tg=b9) (ns:vY tg=b9) (c2:chk P c val=b9) (c4:(!xp val|| !xp tg)=b9) (hs:swapsWithSole [tg] val pos.line aQ=pure cj) (he:ev K c e T λv h=>tM K t v e h λe h=>Q .next e h):
  nE (model aR w) A (exec (.Assign [tg] val pos) aQ) (LS P aQ B Z s Q) qH s:=
 wpAny_Assign_stores (s7 (KM Z0 M CK c P aQ A val e Z T s _ c2 X r Y R he) λv aM aW v1 s1 q p=>DM (vH ns)
  (UA (xe Z0 M CK X hin r (p.toS Y).bG p.rel c1 p.val q) λz e2 aJ bB s2 q2 p2=>⟨.next,e2,aJ,bB,q2,(p.toS Y).trans p2,trivial⟩)) hs (HZ c4 aQ)
theorem JE(Z0:BV K KF B mg mb)(M:K.aV)(CK:qF aR w K B d)(t:af)(c:E):CD aR w K KF B mg mb d (.assign t c):=by
 exact λP aQ A st e Z T s Q hc hin X r Y R he=>by
  refine N1 hc λtgs val pos hc=>oh hc λtg tgs hc=>oR (bl (bl (bl (bl (bl hc))))) ?_;have c1:=br (bl (bl (bl (bl hc))));have c2:=br (bl (bl (bl hc)));have c3:=br (bl (bl hc));cases hcomp:Id val with
  | false=>exact Ee Z0 M CK X hin r Y R c1 c3 c2 (br hc) (SB hcomp (J tg) pos.line) he
  | true=>
   have h:=br (bl hc);rw[hcomp] at h;have e1:=cK (br h);refine Uo (C:=λc=>ev K c e T (λv h=>tM K t v e h λe h=>Q .next e h)->chk P c val=b9->nE (model aR w) A (exec (.Assign [tg] val pos) aQ) (LS P aQ B Z s Q) qH s) c e1 (λelt i iter test he c2=>?_) he c2;refine ND (C:=λval=>chk P (.comp elt i iter test) val=b9->(!xp val|| !xp tg)=b9->nE (model aR w) A (exec (.Assign [tg] val pos) aQ) (LS P aQ B Z s Q) qH s) c2 (λx gs sc cpos hk c2 c4=>?_) c2 (br hc);refine JY (C:=λgs=>chk P (.comp elt i iter test) (.ListComp x gs sc cpos)=b9->nE (model aR w) A (exec (.Assign [tg] (.ListComp x gs sc cpos) pos) aQ) (LS P aQ B Z s Q) qH s) hk (λtn tp it ifs h1 h2 aj h3 h4 h5 c2=>?_) c2;subst h1;have hb:∃b,swapsWithSole [tg] (.ListComp x [⟨.Name tn tp,it,ifs,0⟩] sc cpos) pos.line aQ=pure b:=af.loc.elim (motive:=λt=>G9 P t tg=b9->∃b,swapsWithSole [tg] (.ListComp x [⟨.Name tn tp,it,ifs,0⟩] sc cpos) pos.line aQ=pure b) t (cK (bl h))
    (λi c1=>ry (C:=λtg=>∃b,swapsWithSole [tg] (.ListComp x [⟨.Name tn tp,it,ifs,0⟩] sc cpos) pos.line aQ=pure b) c1 λz z z=>⟨_,rfl⟩) c1
   obtain⟨b,hb⟩:=hb;cases b with
   | true=>exact Iw Z0 M CK aj X hin r Y R c1 (vH c3) h3 h2 h4 h5 hb he
   | false=>exact Ee Z0 M CK X hin r Y R c1 c3 c2 c4 hb he
theorem Om(Z0:BV K KF B mg mb)(M:K.aV)(CK:qF aR w K B d)(i:Nat)(o:Fk)(c:E):CD aR w K KF B mg mb d (.aug (.loc i) o c):=by
 exact λP aQ A st e Z T s Q hc hin X r Y R he=>by
  refine KU hc λtg op val pos hc=>?_;rw[Nw (br (bl hc))];refine ry (bl (bl hc)) λx px hk=>?_;obtain⟨k,hk⟩:=eH.mp hk;obtain⟨v0,q,he⟩:=Ng (f:=λx=>ev K c e T λy h=>tj (Cf o x y h) λv h=>Q .next (e.set i (J v)) h) he;have hl:ev K (.loc i) e T (λv h=>v=v0/\h=T):=by show Ip e[i]? False _;rw[q];exact⟨rfl,rfl⟩
  refine wpAny_AugAssign_Name (s7 (DW (pos:=px) Z0 X Y R hk hl).2 λv aM aW val1 s1 q1 p1=>?_);obtain⟨rfl,rfl⟩:=q1;refine s7 (KM Z0 M CK c P aQ A val e aW aM s1 _ (br hc) X r (Y.on p1) p1.rel he) λv2 aJ bB bI s2 q2 p2=>?_;refine s7 (AT q2 p2.rel (p1.val.mono p2.ext.old) p2.val) λv3 σ3 ρ3 val3 s3 q3 p3=>?_;have pS:=((p1.trans p2).trans p3).toS Y;exact UA (yS (Q:=λe T=>Q .next e T) X hin pS.bG p3.rel hk p3.val q3) λz e4 σ4 ρ4 s4 q4 p4=>⟨.next,e4,σ4,ρ4,q4,pS.trans p4,trivial⟩
theorem Pp(Z0:BV K KF B mg mb)(M:K.aV)(CK:qF aR w K B d)(a:E)(n:Nat)(o:Fk)(c:E):CD aR w K KF B mg mb d (.aug (.attr a n) o c):=by
 exact λP aQ A st e Z T s Q hc hin X r Y R he=>by
  refine KU hc λtg op val pos hc=>?_;rw[Nw (br (bl hc))];refine wf (bl (bl hc)) λo' nm px h=>?_;rw[o4 (br (bl h))];have c1:=cy (bl (bl h));refine wpAny_AugAssign_AttributeAny (s7 (KM Z0 M CK a P aQ A o' e Z T s _ (br h) X r Y R he) λv aM aW val1 s1 q1 p1=>?_);obtain⟨u,hu,q1⟩:=v8 q1;refine s7 (Fh (Q:=λv h=>v=u/\h=aM) Z0.cls Z0.bV p1.rel c1 p1.val (by rw[hu];exact⟨rfl,rfl⟩)) λv2 aJ bB bI s2 q2 p2=>?_;obtain⟨rfl,rfl⟩:=q2;refine s7 (KM Z0 M CK c P aQ A val e bB aJ s2 _ (br hc) X r ((Y.on p1).on p2) p2.rel q1) λv3 σ3 ρ3 val3 s3 q3 p3=>?_;refine s7 (AT q3 p3.rel (p2.val.mono p3.ext.old) p3.val) λv4 σ4 ρ4 val4 s4 q4 p4=>?_;exact goU (yi Z0.cls Z0.bV p4.rel c1 (((p1.val.mono p2.ext.old).mono p3.ext.old).mono p4.ext.old) p4.val q4) λz v5 σ5 ρ5 s5 q5 p5=>⟨.next,e,σ5,ρ5,q5,((((p1.trans p2).trans p3).trans p4).trans p5).toS Y,trivial⟩
theorem O6(Z0:BV K KF B mg mb)(M:K.aV)(CK:qF aR w K B d)(a i:E)(o:Fk)(c:E):CD aR w K KF B mg mb d (.aug (.sub a i) o c):=by
 exact λP aQ A st e Z T s Q hc hin X r Y R he=>by
  refine KU hc λtg op val pos hc=>?_;rw[Nw (br (bl hc))];refine Ez (bl (bl hc)) λo' sl px h=>?_;refine wpAny_AugAssign_SubscriptAny (s7 (KM Z0 M CK a P aQ A o' e Z T s _ (bl (bl h)) X r Y R he) λv aM aW val1 s1 q1 p1=>?_) (λov iv new=>by
   have h:=br h;cases sl<;>first | rfl | exact(dd h).elim)
  refine s7 (KM Z0 M CK i P aQ A sl e aW aM s1 _ (br (bl h)) X r (Y.on p1) p1.rel q1) λv2 aJ bB bI s2 q2 p2=>?_;obtain⟨u,hu,q2⟩:=v8 q2;refine s7 (F1 (Q:=λv h=>v=u/\h=aJ) Z0.con p2.rel (p1.val.mono p2.ext.old) p2.val (by rw[hu];exact⟨rfl,rfl⟩)) λv3 σ3 ρ3 val3 s3 q3 p3=>?_;obtain⟨rfl,rfl⟩:=q3;refine s7 (KM Z0 M CK c P aQ A val e ρ3 σ3 s3 _ (br hc) X r (((Y.on p1).on p2).on p3) p3.rel q2) λv4 σ4 ρ4 val4 s4 q4 p4=>?_;refine s7 (AT q4 p4.rel (p3.val.mono p4.ext.old) p4.val) λv5 σ5 ρ5 val5 s5 q5 p5=>?_;exact goU (ye p5.rel ((((p1.val.mono p2.ext.old).mono p3.ext.old).mono p4.ext.old).mono p5.ext.old) (((p2.val.mono p3.ext.old).mono p4.ext.old).mono p5.ext.old) p5.val q5) λz v6 σ6 ρ6 s6 q6 p6=>
   ⟨.next,e,σ6,ρ6,q6,(((((p1.trans p2).trans p3).trans p4).trans p5).trans p6).toS Y,trivial⟩
theorem RE(h:VR Z v val)(q:okU v X):X/\∀a,val≠.ref a:=by
 cases v<;>first | exact(q:False).elim | exact⟨q,λa e=>by subst e;exact h⟩
theorem OH(Z0:BV K KF B mg mb)(M:K.aV)(CK:qF aR w K B d)(c:E):CD aR w K KF B mg mb d (.expr c):=by
 exact λP aQ A st e Z T s Q hc hin X r Y R he=>by
  refine Tf hc λval pos hc=>?_;have hi:interactive aQ=cj:=by unfold interactive;rw[X.kind];rfl
  refine wpAny_Expr (s7 (KM Z0 M CK c P aQ A val e Z T s _ (bl hc) X r Y R he) λv aM aW val1 s1 q p=>?_) hi (SB (nt (br hc)) U pos.line);obtain⟨q,h⟩:=RE p.val q;cases val1<;>first | exact cJ rfl (h _) | exact⟨.next,e,aM,aW,q,p.toS Y,trivial⟩
theorem Sf(Z0:BV K KF B mg mb)(M:K.aV)(CK:qF aR w K B d)(c:E):CD aR w K KF B mg mb d (.ret c):=by
 exact λP aQ A st e Z T s Q hc hin X r Y R he=>by
  refine WS hc λo pos hc=>?_;cases o with
  | some val=>exact wpAny_Return_some (s7 (KM Z0 M CK c P aQ A _ e Z T s _ hc X r Y R he) λv aM aW val1 s1 q p=>⟨.ret v,e,aM,aW,q,p.toS Y,p.val⟩)
  | none=>
   cases Kd hc;exact wpAny_Return_none ⟨.ret .none,e,T,Z,he,.same R Y,trivial⟩
theorem P9(Z0:BV K KF B mg mb)(M:K.aV)(CK:qF aR w K B d)(c:E)(sa:B4 aR w K KF B mg mb d a)(sb:B4 aR w K KF B mg mb d b):CD aR w K KF B mg mb d (.ite c a b):=λP aQ A st e Z T s Q hc hin X r Y R he=>by
 refine Yk hc λt x y pos hc=>?_;refine wpAny_If (Vz (WE Z0 M CK c P aQ A _ e Z T s _ (bl (bl (bl hc))) (br (bl (bl hc))) X r Y R he) λt aM aW s1 q p=>?_);have pS:=p.toS Y;cases t with
 | true=>exact upS pS (sa P aQ A _ e aW aM s1 Q (br (bl hc)) hin X r pS.bG p.rel (q.1 rfl))
 | false=>exact upS pS (sb P aQ A _ e aW aM s1 Q (br hc) hin X r pS.bG p.rel (q.2 rfl))
theorem Pa(Z0:BV K KF B mg mb)(M:K.aV)(CK:qF aR w K B d)(c:E)(sb:B4 aR w K KF B mg mb d b):CD aR w K KF B mg mb d (.loop c b):=by
 revert c;ext aR w K KF B mg mb d b;ext c;exact λP aQ A st e Z T s Q hc hin X r Y R he=>by
  refine QJ hc λtst body rr pos hc=>oR (br (bl hc)) ?_;obtain⟨n,he⟩:=he;refine wpAny_While (codeAny_whileLoop (λn s1=>∃e1 aM aW,AE n (λe h P=>ev K c e h λx h=>yo (tr x) λt=>P t h) (λe h P=>uO K b e h P) e1 aM Q/\uP P aQ B Z s e1 aM aW s1) (λn1 s1 h=>?_) n ⟨e,T,Z,he,.same R Y⟩);obtain⟨e1,aM,aW,hw,p1⟩:=h;cases n1 with
  | zero=>exact hw.elim
  | succ n1=>
   refine Vz (WE Z0 M CK c P aQ A tst e1 aW aM s1 _ (bl (bl (bl hc))) (br (bl (bl hc))) X r p1.bG p1.rel hw) λt aJ bB s2 q2 p2=>?_;have pS:=p1.trans (p2.toS p1.bG);refine Aq q2 (λz q2=>?_) λz q2=>n9 ⟨.next,e1,aJ,bB,q2,pS,trivial⟩;refine goS (sb P aQ A body e1 bB aJ s2 _ (br hc) hin X r pS.bG p2.rel q2) λf fl e3 σ3 ρ3 s3 q3 p3 r3=>?_;revert q3;exact Ej r3 (λq3=>⟨n1,dO _,e3,σ3,ρ3,q3,pS.trans p3⟩) (λq3=>⟨.next,e3,σ3,ρ3,q3,pS.trans p3,trivial⟩) λv val r3 q3=>⟨_,e3,σ3,ρ3,q3,pS.trans p3,r3⟩
theorem SF{k:It}{x:V}{j:Nat}{f:V->Mine.Lake.nw->H->QS->Prop}{e:Mine.Lake.nw}{h:H}{Q:QS}{C:Prop}(z:Iy K n k x j f e h Q)
  (c:∀m,m<n->(Ip (oG K k h x j) (Q .next e h) λv=>f v e h (o8 (λe h=>Iy K m k x (j+1) f e h Q) Q))->C):C:=match n,z with
 | n+1,z=>c n (dO n) z
theorem aaB{p1 p2 p3 p4 p5:α->β->γ->δ->Prop}{C:Prop}(h:∃a b c d,p1 a b c d/\p2 a b c d/\p3 a b c d/\p4 a b c d/\p5 a b c d)(f:∀a b c d,p1 a b c d->p2 a b c d->p3 a b c d->p4 a b c d->p5 a b c d->C):C:=by
 obtain⟨a,b,c,d,h1,h2,h3,h4,h5⟩:=h;exact f a b c d h1 h2 h3 h4 h5
theorem OF{b:Ss}(Z0:BV K KF B mg mb)(M:K.aV)(CK:qF aR w K B d)(t:af)(it:E)(sb:B4 aR w K KF B mg mb d b):CD aR w K KF B mg mb d (.each t it b):=by
 revert t it;ext aR w K KF B mg mb d b;ext t it;exact λP aQ A st e Z T s Q hc hin X r Y R he=>by
  refine Wr hc λtg iex body rr pos hc=>oR (br (bl hc)) ?_;have c1:=bl (bl (bl (bl hc)));refine wpAny_For (s7 (KM Z0 M CK it P aQ A iex e Z T s _ (br (bl (bl (bl hc)))) X r Y R he) λv aM aW val s1 q1 p1=>?_) (λx=>RO (br (bl (bl hc))) aQ x);obtain⟨k,hk,htk,n,hw⟩:=M9 q1;refine nL (D3 Z0.con p1.rel p1.val hk) (λitv s2 h2=>h2.elim λita h2=>?_) λz z x=>x.elim;rw[h2.1];have Bg:=h2.2.1;have p2:vU B aW s1 aM v aW val s2:=⟨.refl _ _,p1.rel.out (λi p hp=>⟨λo g=>Bg.keep _ _ g,λo g=>Bg.keep _ _ g⟩) λb o g=>Bg.keep _ _ (p1.rel.base b o g),λb o g z=>Bg.keep b o g,p1.val,h2.2.2.1,h2.2.2.2⟩
  have f1:=p1.rel.fresh Bg.fresh;have hits:=p1.bE Bg.fresh;have nF:¬Vy aQ ita:=λf=>(Y.alive f).elim λo ho=>sn ho hits;refine codeAny_forLoop_any (λn s3=>∃j e3 σ3 ρ3,Iy K n k v j (λv e h P=>tM K t v e h λe h=>uO K b e h P) e3 σ3 Q/\uP P aQ B Z s e3 σ3 ρ3 s3/\Ba s3.heap ita val j k/\VR ρ3 v val/\BU ρ3 ita) (λn1 s3 I=>aaB I λj e3 σ3 ρ3 hw p3 I3 hv3 o3=>?_) n
   ⟨0,e,aM,aW,hw,(p1.trans p2).toS Y,Bg.ok,p1.val,f1.1⟩
  refine SF hw λn' hn hw=>M6 r.1 Z0.con p3.rel hv3 I3 hw (λs4 hs g o hw=>n9 ⟨.next,e3,σ3,ρ3,hw,p3.but hs hits o3 f1.2 nF g o,trivial⟩) λs4 u uv hs g o hu I4 hw=>?_;have p4:=p3.but hs hits o3 f1.2 nF g o;refine Sx c1 htk I4 (λis ht=>?_) ?_
  .subst ht;obtain⟨vs,q,_⟩:=MP hw;obtain⟨a,_,h,_⟩:=DH Z0.con p4.rel hu q;exact⟨a,h⟩
  .refine UA (xe Z0 M CK X hin r p4.bG p4.rel c1 hu hw) λz e5 σ5 ρ5 s5 q5 p5=>?_;have o5:=I4.alive.elim λoi hoi=>o3.ext p5.ext hoi;have I5:=I4.at_ λo g=>p5.keep _ _ g o3 nF;have p45:=p4.trans p5;refine goS (sb P aQ A body e5 ρ5 σ5 s5 _ (br hc) hin X r p5.bG p5.rel q5) λf fl e6 σ6 ρ6 s6 q6 p6 r6=>?_;revert q6;exact Ej r6 (λq6=>⟨n',hn,j+1,e6,σ6,ρ6,q6,p45.trans p6,I5.at_ λo g=>p6.keep _ _ g o5 nF,(hv3.mono p5.ext.old).mono p6.ext.old,I5.alive.elim λoi hoi=>o5.ext p6.ext hoi⟩)
    (λq6=>⟨.next,e6,σ6,ρ6,q6,p45.trans p6,trivial⟩) λv val r6 q6=>⟨_,e6,σ6,ρ6,q6,p45.trans p6,r6⟩
theorem RV:CD aR w K KF B mg mb d .brk:=λP aQ A st e Z T s Q hc hin X r Y R he=>
 WJ (C:=λst=>nE (model aR w) A (exec st aQ) (LS P aQ B Z s Q) qH s) hc λz=>wpAny_Break ⟨.brk,e,T,Z,he,.same R Y,trivial⟩
theorem NR:B4 aR w K KF B mg mb d .nil:=λP aQ A xs e Z T s Q hc hin X r Y R he=>
 oR (C:=λxs=>nE (model aR w) A (execs xs aQ) (LS P aQ B Z s Q) qH s) hc (n9 ⟨.next,e,T,Z,he,.same R Y,trivial⟩)
theorem Lw(sa:CD aR w K KF B mg mb d a)(sb:B4 aR w K KF B mg mb d b):B4 aR w K KF B mg mb d (.cons a b):=λP aQ A xs e Z T s Q hc hin X r Y R he=>by
 refine oh hc λx xs hc=>?_;refine wpAny_execs_cons (goS (sa P aQ A x e Z T s _ (bl hc) hin X r Y R he) λf fl e1 aM aW s1 q p r1=>?_);revert q;exact Ej r1 (λq=>upS p (sb P aQ A xs e1 aW aM s1 Q (br hc) hin X r p.bG p.rel q)) (λq=>⟨.brk,e1,aM,aW,q,p,trivial⟩) λv val r1 q=>⟨_,e1,aM,aW,q,p,r1⟩
mutual
theorem abm(Z0:BV K KF B mg mb)(M:K.aV)(CK:qF aR w K B d):∀c:S,CD aR w K KF B mg mb d c
 | .assign t c=>JE Z0 M CK t c
 | .aug (.loc i) o c=>Om Z0 M CK i o c
 | .aug (.tup is) o c=>λz z z z z z z z z z z z z z z he=>he.elim
 | .aug (.attr a n) o c=>Pp Z0 M CK a n o c
 | .aug (.sub a i) o c=>O6 Z0 M CK a i o c
 | .expr c=>OH Z0 M CK c
 | .ret c=>Sf Z0 M CK c
 | .ite c a b=>P9 Z0 M CK c (Go Z0 M CK a) (Go Z0 M CK b)
 | .loop c b=>Pa Z0 M CK c (Go Z0 M CK b)
 | .each t it b=>OF Z0 M CK t it (Go Z0 M CK b)
 | .brk=>RV
 | .fail=>λz z z z z z z z z z z z z z z he=>he.elim
theorem Go(Z0:BV K KF B mg mb)(M:K.aV)(CK:qF aR w K B d):∀c:Ss,B4 aR w K KF B mg mb d c
 | .nil=>NR
 | .cons a b=>Lw (abm Z0 M CK a) (Go Z0 M CK b)
end
end
end
section
open PySem PySem.W PyProof.Rows PySem.SeqAt
def Rok(B:Heap)(Z:tv)(s:nB)(Q:V->H->Prop)(r:Result)(s':nB):Prop:=match r with
 | .ok (.ret v)=>Bk B Z s Q v s'
 | _=>False
def KO(aR:nN)(w:dw)(B:Heap)(con:Nat->Option O)(d:Nat):pN where
 con:=con
 call:=λf vs T Q=>∀A Z s aF,uH A d->pA B Z T s.heap->qX Z vs aF->codeAny (model aR w) A (.call (.ref f) ⟨aF,[]⟩) (Rok B Z s Q) s
theorem Vt(aR:nN)(w:dw)(B:Heap)(con:Nat->Option O)(d:Nat):qF aR w (KO aR w B con d) B d:=λf vs T Q h A Z s aF r R m=>
 wpAny_call (codeAny_mono (h A Z s aF r R m) λr s' z=>by rcases r with e | (v | _ | _ | _)<;>first | exact z | exact(z:False).elim)
theorem MY(aR:nN)(w:dw)(B:Heap)(con:Nat->Option O)(d:Nat):(KO aR w B con d).aV:=λf vs T Q Q' m h A Z s aF r R x=>
 codeAny_mono (h A Z s aF r R x) λr s' z=>by rcases r with e | (v | _ | _ | _)<;>first | exact(z:False).elim | exact Bk.mono m z
structure Fn where
 na:Nat
 gs:List (Option Nat)
 body:Ss
def qN:List (Str × nH)->Bool
 | []=>b9
 | y::r=>(B9 y.1 r).isNone&&qN r
def yj:List Arg->List (Str × nH)->Bool
 | [],_=>b9
 | a::as,l=>oZ l λy r=>oX a.arg y.1&&FN y.2&&yj as r
def gOk(GT:List (Str × GV))(g:Option Nat)(y:Str × nH):Bool:=vv g b9 λj=>cu (y.2= .globalImplicit)&&vv GT[j]? cj λp=>oX y.1 p.1
def Uq(GT:List (Str × GV)):List (Option Nat)->List (Str × nH)->Bool
 | [],_=>b9
 | g::gs,l=>oZ l λy r=>gOk GT g y&&Uq GT gs r
def Fn.pm(GT:List (Str × GV))(ft:List Nat)(f:Fn)(sc:nV):Pm:=⟨sc.names,f.gs.map λo=>o.bind λj=>(GT[j]?).map (·.2),ft,U⟩
def Db(p:od):Bool:=p.posonlyargs.isEmpty&&p.kwonlyargs.isEmpty&&p.vararg.isNone&&p.kwarg.isNone
def SQ(GT:List (Str × GV))(ft:List Nat)(f:Fn)(p:od)(sc:nV)(body:List Stmt):Bool:=
 cu (sc.kind= .function)&& !sc.isGenerator&& !sc.isCoroutine&&Db p&&qN sc.names&&sc.names.all (λy=> !dbg y.1)&&(p.args.length == f.na)&&yj p.args sc.names&&Uq GT f.gs sc.names&&BK (f.pm GT ft sc) f.body body
theorem r4:∀{l:List (Str × nH)},qN l=b9->∀{i:Nat} {x:Str} {k:nH},l[i]? =J (x,k)->l.lookup x=J k
 | [],_,_,_,_,h=>nomatch h
 | y::r,hd,0,x,k,h=>by
  cases h;show(match x == x with | true=>J k | false=>r.lookup x)=J k;rw[beq_self_eq_true]
 | y::r,hd,i+1,x,k,h=>by
  have ih:=r4 (br hd) (i:=i) h;rw[d9];cases q:x == y.1 with
  | false=>exact ih
  | true=>exact sn (((u6 _ _).trans (cI (r.lookup ·) (cK q).symm)).trans ih) (eu.mp (bl hd))
theorem Hl{r:List (Str × nH)}(hd:qN (y::r)=b9){m:Nat}{x:Str}{k:nH}{C:Prop}(h:r[m]? =J (x,k))(e:x=y.1):C:=
 sn ((u6 _ _).trans ((cI (r.lookup ·) e.symm).trans (r4 (br hd) h))) (eu.mp (bl hd))
theorem Jl:∀{l:List (Str × nH)},qN l=b9->∀{i j:Nat} {x:Str} {k k':nH},l[i]? =J (x,k)->l[j]? =J (x,k')->i=j
 | [],_,_,_,_,_,_,h,_=>nomatch h
 | _::_,_,0,0,_,_,_,_,_=>rfl
 | _::_,hd,0,j+1,_,_,_,h,h'=>Hl hd h' (cI kM (cL h)).symm
 | _::_,hd,i+1,0,_,_,_,h,h'=>Hl hd h (cI kM (cL h')).symm
 | _::_,hd,i+1,j+1,_,_,_,h,h'=>cI (·+1) (Jl (br hd) (i:=i) (j:=j) h h')
theorem VU:∀{gs:List (Option Nat)} {l:List (Str × nH)},Uq GT gs l=b9->∀{i j:Nat},gs[i]? =J (J j)->∃x p,l[i]? =J (x,.globalImplicit)/\GT[j]? =J p/\x=p.1
 | [],_,_,_,_,h=>nomatch h
 | g::gs,l,hg,0,j,h=>oh (C:=λl=>∃x p,l[0]? =J (x,jO)/\GT[j]? =J p/\x=p.1) hg λy r hg=>by
  cases h;have hg:(cu (y.2= .globalImplicit)&&vv GT[j]? cj λp=>oX y.1 p.1)=b9:=bl hg;have h2:=br hg;cases e:GT[j]? with
  | none=>rw[e] at h2;exact nomatch h2
  | some p=>rw[e] at h2;exact⟨y.1,p,cI J (iJ rfl (cy (bl hg))),rfl,o4 h2⟩
 | g::gs,l,hg,i+1,j,h=>oh (C:=λl=>∃x p,l[i+1]? =J (x,jO)/\GT[j]? =J p/\x=p.1) hg λy r hg=>VU (br hg) (i:=i) h
theorem G4:∀{as:List Arg} {l:List (Str × nH)},yj as l=b9->∀{j:Nat} {a:Arg},as[j]? =J a->∃k,l[j]? =J (a.arg,k)/\FN k=b9
 | [],_,_,_,_,h=>nomatch h
 | c::as,l,hp,0,a,h=>oh (C:=λl=>∃k,l[0]? =J (a.arg,k)/\FN k=b9) hp λy r hp=>⟨y.2,cI J (iJ ((o4 (bl (bl hp))).symm.trans (cI Arg.arg (cL h))) rfl),br (bl hp)⟩
 | c::as,l,hp,j+1,a,h=>oh (C:=λl=>∃k,l[j+1]? =J (a.arg,k)/\FN k=b9) hp λy r hp=>G4 (br hp) (j:=j) h
theorem MN{l:List (Str × nH)}{as:List Arg}(hd:qN (y::l)=b9)(hp:yj as l=b9){b:Arg}(hb:b∈as):b.arg≠y.1:=λq=>by
 obtain⟨j,hj⟩:=iX hb;obtain⟨k,h,_⟩:=G4 hp hj;exact Hl hd h q
theorem DJ:∀{as:List Arg} {l:List (Str × nH)} {aF:List nr},qN l=b9->yj as l=b9->∀p∈(as.map (·.arg)).zip aF,((as.map (·.arg)).zip aF).lookup p.1=J p.2
 | [],_,_,_,_,_,hm=>nomatch hm
 | _::_,_,[],_,_,_,hm=>nomatch hm
 | a::as,l,v::aF,hd,hp,p,hm=>oh (C:=λl=>qN l=b9->List.lookup p.1 ((a.arg,v)::(as.map (·.arg)).zip aF)=J p.2) hp (λy r hp hd=>by
  rw[d9];cases q:p.1 == a.arg with
  | true=>
   cases hm with
   | head=>rfl
   | tail _ hm=>
    obtain⟨b,hb,e⟩:=ef.mp (List.of_mem_zip (a:=p.1) (b:=p.2) hm).1;exact cJ (e.trans ((cK q).trans (o4 (bl (bl hp))))) (MN hd (br hp) hb)
  | false=>
   cases hm with
   | head=>exact nomatch (beq_self_eq_true a.arg).symm.trans q
   | tail _ hm=>exact DJ (br hd) (br hp) p hm) hd
theorem zp{L:List (Str × nr)}:∀{ns:List Str} {aF:List nr},ns.length=aF.length->(∀p∈ns.zip aF,L.lookup p.1=J p.2)->(ns.filterMap λn=>(L.lookup n).map (n,·))=ns.zip aF
 | [],_,_,_=>rfl
 | _::_,[],hl,_=>nomatch hl
 | n::ns,v::aF,hl,h=>by
  rw[List.filterMap_cons,h (n,v) (.head _)];exact cI ((n,v)::·) (zp (gy hl) λp hp=>h p (.tail _ hp))
theorem FR{as:List Arg}{aF:List nr}(hd:qN l=b9)(hp:yj as l=b9)(hl:as.length=aF.length):
  ((as.map (·.arg)).filterMap λn=>(((as.map (·.arg)).zip aF).lookup n).map (n,·))=(as.map (·.arg)).zip aF:=zp ((bj _).trans hl) (DJ hd hp)
theorem Rb{l:List α}{s:β}{f:α->β->Sem (ForInStep β)}{g:β->Sem γ}(h:l=[]):(forIn l s f >>= g)=g s:=by subst h;rfl
theorem SL(x:List α)(n:Nat):x.zip (List.drop n ([]:List β))=[]:=by rw[List.drop_nil,List.zip_nil_right]
theorem JX{fd:FuncData}{aF:List nr}{l:List (Str × nH)}(h:Db fd.params=b9)(hd:fd.defaults= .none)(hl:fd.params.args.length=aF.length)(dl:qN l=b9)(hp:yj fd.params.args l=b9):
  bindArgs fd ⟨aF,[]⟩=pure ((fd.params.args.map (·.arg)).zip aF):=by
 ext fd aF l;obtain⟨nm,qn,⟨po,as,va,ko,kd,kw,df⟩,bd,sc,gl,cl,dfl,kdf,doc,pm,an,cd,ct,bt⟩:=fd;dsimp only at*;subst hd;unfold Db at h;simp only[ax,jM,eu] at h;obtain⟨⟨⟨rfl,rfl⟩,rfl⟩,rfl⟩:=h;have fz:=FR dl hp hl;have e:(as.map (·.arg)).length=aF.length:=(bj _).trans hl;have miss:∀k,((as.map (·.arg)).take k).filter (λn=>(((as.map (·.arg)).zip aF).lookup n).isNone)=[]:=λk=>by
  refine List.filter_eq_nil_iff.mpr λn hn q=>?_;have hn:=hE hn;rw[<- List.map_fst_zip (hU e),<-fz] at hn;obtain⟨p,hm,rfl⟩:=ef.mp hn;obtain⟨m,_,h2⟩:=List.mem_filterMap.mp hm;obtain⟨v,g,rfl⟩:=dj.mp h2;rw[g] at q;exact nomatch q
 refine Eq.trans (b:=ite ((cu (aF.length>(([]:List Arg).map (·.arg)++as.map (·.arg)).length)&&(U:Option Arg).isNone)=b9) _ _) rfl ((cH ?_).trans ?_)
 .show ¬((cu ((as.map (·.arg)).length<aF.length)&&b9)=b9);rw[e,cD (eZ _)];exact dd
 refine(cH ?_).trans ((Rb (SL _ _)).trans ?_)
 .show ¬((!(((as.map (·.arg)).take _).filter (λn=>(((as.map (·.arg)).zip aF).lookup n).isNone)).isEmpty)=b9);rw[miss];exact dd
 show(Pure.pure (List.filterMap (λn=>(((as.map (·.arg)).zip aF).lookup n).map (n,·)) (as.map (·.arg)++[])):Sem _)=_;rw[cP,fz]
end
section
open PySem PySem.W PyProof.Rows PySem.SeqAt
def sF(n:Nat):V->Prop
 | .ref i=>i<n
 | _=>True
def Zp(n:Nat):O->Prop
 | .list xs=>∀x∈xs,sF n x
 | .tup xs=>∀x∈xs,sF n x
 | .inst _ fs=>∀p∈fs,sF n p.2
 | .aT _ _ _=>True
def o6(n:Nat)(T:H):Prop:=∀o∈T,Zp n o
def Ret(n0:Nat)(v:V)(aK:H)(Q:V->H->Prop):Prop:=
 Q v aK\/(∃τ b8,aK=τ++b8/\n0<=τ.length/\o6 τ.length τ/\sF τ.length v/\Q v τ)\/
 (∃τ b8 k o,aK=τ++b8/\v= .ref (τ.length+k)/\b8[k]? =J o/\Zp τ.length o/\n0<=τ.length/\o6 τ.length τ/\Q (.ref τ.length) (τ++[o]))
def qP(n0:Nat)(Q:V->H->Prop):QS
 | .next,_,aK=>Ret n0 .none aK Q
 | .ret v,_,aK=>Ret n0 v aK Q
 | .brk,_,_=>False
structure Zo (B:Heap) (f:Addr) (params:od) (sc:nV) (body:List Stmt):Prop where
 at_:∃o fd,B.get? f=J o/\o.data= .func fd/\fd.params=params/\fd.body= .stmts body/\fd.scope=sc/\fd.globals=mainGlobals/\fd.builtins=builtinsNs/\fd.closure=[]/\fd.defaults= .none/\B.CodeRec fd.code fd.qualname
section
variable{aR:nN}{w:dw}{K:pN}{KF:Frag}{B:Heap}{mg mb:Str->Option nr}{d:Nat}{con:Nat->Option O}
variable{A:nQ}{aQ:eC}{P:Pm}{e e' e'':Mine.Lake.nw}{Z aL ρ'':tv}{T aK σ'':H}{s s' s'':nB}{Q:V->H->Prop}
theorem VR.lt(h:VR Z v val):sF Z.length v:=by
 cases v<;>first | trivial | skip
 cases val<;>first | exact h.elim | skip
 obtain⟨d,e⟩:=h;exact f0 e
theorem qX.lt(m:qX Z xs vs):∀x∈xs,sF Z.length x:=by
 induction m with
 | nil=>intro x hx;cases hx
 | cons a _ ih=>intro x hx;cases hx with
  | head=>exact a.lt
  | tail _ hx=>exact ih x hx
theorem HW.lt(m:HW Z fs es):∀p∈fs,sF Z.length p.2:=by
 induction m with
 | nil=>intro x hx;cases hx
 | cons _ _ a _ ih=>intro x hx;cases hx with
  | head=>exact a.lt
  | tail _ hx=>exact ih x hx
theorem pA.closed(R:pA B Z T s.heap):o6 T.length T:=by
 ext B Z T s;intro o ho;obtain⟨i,hi⟩:=iX ho;have l:=f0 hi;have h:=R.at_ i _ o (a7 (by rw[R.len];exact l)) hi;rw[<- R.len];cases o with
 | list xs=>obtain⟨_,vs,n,_,m⟩:=h;exact m.lt
 | tup xs=>obtain⟨_,vs,_,m⟩:=h;exact m.lt
 | inst c fs=>obtain⟨_,_,es,n,_,m⟩:=h;exact m.lt
 | aT _ _ _=>trivial
theorem VR.take(h:VR Z v val)(l:sF n v):VR (Z.take n) v val:=by
 cases v<;>cases val<;>first | exact h | skip
 obtain⟨d,e⟩:=h;exact⟨d,by rw[eS l];exact e⟩
theorem qX.take'(m:qX Z xs vs)(l:∀x∈xs,sF n x):qX (Z.take n) xs vs:=by
 induction m with
 | nil=>exact .nil
 | cons a _ ih=>exact .cons (a.take (l _ (.head _))) (ih λx hx=>l x (.tail _ hx))
theorem HW.take'(m:HW Z fs es)(l:∀p∈fs,sF n p.2):HW (Z.take n) fs es:=by
 induction m with
 | nil=>exact .nil
 | cons a b c _ ih=>exact .cons a b (c.take (l _ (.head _))) (ih λx hx=>l x (.tail _ hx))
theorem OR.take{a d n:Nat}{o:O}(x:OR Z h a d o)(l:Zp n o):OR (Z.take n) h a d o:=by
 ext Z h a d n o;cases o with
 | list xs=>obtain⟨e,vs,k,g,m⟩:=x;exact⟨e,vs,k,g,m.take' l⟩
 | tup xs=>obtain⟨e,vs,g,m⟩:=x;exact⟨e,vs,g,m.take' l⟩
 | inst c fs=>obtain⟨e,g,es,k,g2,m⟩:=x;exact⟨e,g,es,k,g2,m.take' l⟩
 | aT _ _ _=>exact x
theorem vD(e:(Z.take n)[i]? =J p):i<n/\Z[i]? =J p:=by
 ext Z n i p;have l:=f0 e;rw[dE] at l;have:i<n:=by lia
 rw[eS this] at e;exact⟨this,e⟩
theorem pA.take(R:pA B Z (τ++b8) h)(c:o6 τ.length τ):pA B (Z.take τ.length) τ h:=by
 have hl:=R.len;rw[a6] at hl;refine⟨by rw[dE];lia,λi p o e1 e2=>?_,λi j p q e1 e2 ne=>R.sep i j p q (vD e1).2 (vD e2).2 ne,λi p e=>R.hi i p (vD e).2,R.base⟩;have l:=f0 e2;exact(R.at_ i p o (vD e1).2 (by rw[ae l];exact e2)).take (c o (dD e2))
theorem Gc(p:vU B Z s aK v aL val s')(q:Ret Z.length v aK Q):Bk B Z s Q val s':=by
 ext B Z aL aK s s' Q v val;rcases q with q | ⟨τ,b8,rfl,hn,hc,hv,q⟩ | ⟨τ,b8,k,o,rfl,rfl,hk,ho,hn,hc,q⟩
 .exact Bk.at_ p q
 .refine⟨v,τ,q,aL.take τ.length,⟨λi pp e=>?_,λi pp hi e=>p.ext.new i pp hi (vD e).2⟩,p.rel.take hc,p.keep,p.val.take hv,p.gens,p.os⟩;rw[eS (cQ (f0 e) hn)];exact p.ext.old i pp e
 ext τ b8 k o
 .obtain⟨a,d,rfl,ha⟩:=p.val.bf;ext a d;have hidx:(τ++b8)[τ.length+k]? =J o:=by rw[cT (by lia)];simpa using hk
  have OA:=p.rel.at_ _ _ o ha hidx;have sp:=p.rel.sep;have tl:(aL.take τ.length).length=τ.length:=by
   have:=p.rel.len;rw[a6] at this;rw[dE];lia
  have grow:∀(i:Nat) (pp:Addr × Addr),(aL.take τ.length)[i]? =J pp->(aL.take τ.length++[(a,d)])[i]? =J pp:=λi pp e=>uC e;have back:∀(i:Nat) (pp:Addr × Addr),(aL.take τ.length++[(a,d)])[i]? =J pp->(i<τ.length/\aL[i]? =J pp)\/(i=τ.length/\pp=(a,d)):=λi pp e=>by
   rcases sL e with e | ⟨h1,h2⟩
   .exact .inl (vD e)
   .exact .inr ⟨by rw[h1,tl],h2⟩
  have RT:=p.rel.take hc;refine⟨.ref τ.length,τ++[o],q,aL.take τ.length++[(a,d)],⟨λi pp e=>?_,λi pp hi e=>?_⟩,⟨by rw[a6,a6,tl];rfl,λi pp o' e1 e2=>?_,λi j pp qq e1 e2 ne=>?_,λi pp e=>?_,p.rel.base⟩,p.keep,⟨d,by have:=um (aL.take τ.length) (a,d);rw[tl] at this;exact this⟩,p.gens,p.os⟩
  .refine grow i pp ?_;rw[eS (cQ (f0 e) hn)];exact p.ext.old i pp e
  .rcases back i pp e with⟨_,h⟩ | ⟨rfl,rfl⟩
   .exact p.ext.new i pp hi h
   .exact p.ext.new _ _ (by lia) ha
  .rcases back i pp e1 with⟨h1,h2⟩ | ⟨rfl,rfl⟩
   .have e2':τ[i]? =J o':=by rw[ae h1] at e2;exact e2
    exact(RT.at_ i pp o' (by rw[eS h1];exact h2) e2').keep grow (λw g=>g) λw g=>g
   .have:o'=o:=by
     have z:=um τ o;rw[e2] at z;exact cL z
    subst this;exact(OA.take ho).keep grow (λw g=>g) λw g=>g
  ext i j pp qq
  .rcases back i pp e1 with⟨h1,h2⟩ | ⟨rfl,rfl⟩<;>rcases back j qq e2 with⟨h3,h4⟩ | ⟨rfl,rfl⟩
   .exact sp i j pp qq h2 h4 ne
   .exact sp i _ pp _ h2 ha (by lia)
   .exact sp _ j _ qq ha h4 (by lia)
   .exact cJ rfl ne
  .rcases back i pp e with⟨_,h⟩ | ⟨rfl,rfl⟩
   .exact p.rel.hi i pp h
   .exact p.rel.hi _ _ ha
theorem uH.deeper(r:uH A (d+1))(aQ:eC):uH (A.deeper aQ) d:=by
 revert aQ;ext d A;obtain⟨h1,h2,h3⟩:=r;refine⟨h1,?_,?_⟩
 .show A.depth+1+4*d<1000;lia
 .show A.units+3+40*d+200<cLine;lia
end
end
section
open PySem PySem.W PyProof.Rows PySem.SeqAt
section
variable{aR:nN}{w:dw}{KF:Frag}{B:Heap}{mg mb:Str->Option nr}{d:Nat}{con:Nat->Option O}{GT:List (Str × GV)}{ft:List Nat}
variable{A:nQ}{e:Mine.Lake.nw}{Z aL:tv}{T aK:H}{s s':nB}{Q:V->H->Prop}
structure NS (aR:nN) (w:dw) (con:Nat->Option O) (KF:Frag) (B:Heap) (mg mb:Str->Option nr) (GT:List (Str × GV)) (ft:List Nat):Prop where
 con:∀a o,con a=J o->CR B a o
 bV:KF.In B
 cls:XF KF
 g:B.Ns mainGlobals mg
 b:B.Ns builtinsNs mb
 nl:B.NoLimit
 gt:∀p∈GT,TL mg mb p.1 p.2/\(p.1 == ("__debug__" :Str))=cj
 ft:∀f∈ft,keepIn KF (.ref f)=b9
theorem NS.sta(af:NS aR w con KF B mg mb GT ft)(d:Nat):BV (KO aR w B con d) KF B mg mb:=⟨af.con,af.bV,af.cls,af.g,af.b⟩
def oU(n:Nat)(vs:List V):Mine.Lake.nw:=vs.map J++cZ (n+1 - vs.length) U
theorem JW(h:(oU n vs)[i]? =J (J v)):i<vs.length/\vs[i]? =J v:=by
 ext n vs i v;unfold oU at h;by_cases l:i<vs.length
 .rw[ae (by simpa using l),cY] at h;refine⟨l,?_⟩;cases q:vs[i]? with
  | none=>rw[q] at h;cases h
  | some u=>rw[q] at h;simp only[mM,jA] at h;rw[h]
 .rw[cT (by simpa using l)] at h;have:=dD h;rw[List.mem_replicate] at this;cases this.2
theorem Ki(kindOf:Str->Option nH):∀(as:List Arg) (l:List (Str × nH)) (aF:List nr) (m cm:Str->Option nr),qN l=b9->yj as l=b9->as.length=aF.length->
  (∀(j:Nat) (a:Arg) (v:nr),as[j]? =J a->aF[j]? =J v->(kindOf a.arg=J .local->bindL kindOf ((as.map (·.arg)).zip aF) m a.arg=J v)/\(kindOf a.arg≠J .local->bindC kindOf ((as.map (·.arg)).zip aF) cm a.arg=J v))/\
  (∀x,(∀a∈as,a.arg≠x)->bindL kindOf ((as.map (·.arg)).zip aF) m x=m x/\bindC kindOf ((as.map (·.arg)).zip aF) cm x=cm x)
 | [],l,aF,m,cm,hd,hp,hl=>⟨λj a v h=>(by cases h),λx w=>(by cases aF<;>exact⟨rfl,rfl⟩)⟩
 | a::as,[],aF,m,cm,hd,hp,hl=>nomatch hp
 | a::as,y::l,[],m,cm,hd,hp,hl=>nomatch hl
 | a::as,y::l,v::aF,m,cm,hd,hp,hl=>by
  have hp:(oX a.arg y.1&&FN y.2&&yj as l)=b9:=hp;have ea:=o4 (bl (bl hp));have hne:∀b∈as,b.arg≠a.arg:=λb hb=>ea▸MN hd (br hp) hb;obtain⟨ih1,ih2⟩:=Ki kindOf as l aF (if kindOf a.arg=J .local then λy=>if y=a.arg then J v else m y else m) (if kindOf a.arg=J .local then cm else λy=>if y=a.arg then J v else cm y) (br hd) (br hp) (gy hl);refine⟨λj b u hj hu=>?_,λy hy=>?_⟩
  .simp only[dA,lD];unfold bindL bindC;cases j with
   | zero=>
    cases hj;cases hu;have z:=ih2 a.arg hne;refine⟨λhk=>?_,λhk=>?_⟩
    .rw[z.1,cG hk];simp
    .rw[z.2,cH hk];simp
   | succ j=>exact ih1 j b u hj hu
  .simp only[dA,lD];unfold bindL bindC;have z:=ih2 y λb hb=>hy b (.tail _ hb);have ny:y≠a.arg:=dT (hy a (.head _));rw[z.1,z.2];constructor
   .split<;>simp [ny]
   .split<;>simp [ny]
structure FnS (GT:List (Str × GV)) (ft:List Nat) (f:Fn) (p:od) (sc:nV) (body:List Stmt):Prop where
 kind:sc.kind= .function
 gen:sc.isGenerator=cj
 co:sc.isCoroutine=cj
 args:Db p=b9
 dist:qN sc.names=b9
 dbg:∀y∈sc.names,(y.1 == ("__debug__" :Str))=cj
 len:p.args.length=f.na
 pre:yj p.args sc.names=b9
 gs:Uq GT f.gs sc.names=b9
 body:BK (f.pm GT ft sc) f.body body=b9
theorem Pr(h:SQ GT ft f p sc body=b9):FnS GT ft f p sc body where
 kind:=cy (bl (bl (bl (bl (bl (bl (bl (bl (bl h)))))))))
 gen:=nt (br (bl (bl (bl (bl (bl (bl (bl (bl h)))))))))
 co:=nt (br (bl (bl (bl (bl (bl (bl (bl h))))))))
 args:=br (bl (bl (bl (bl (bl (bl h))))))
 dist:=br (bl (bl (bl (bl (bl h)))))
 dbg:=λy hy=>(vS _ _).symm.trans (nt (cN.mp (br (bl (bl (bl (bl h))))) y hy))
 len:=cK (br (bl (bl (bl h))))
 pre:=br (bl (bl h))
 gs:=br (bl h)
 body:=br h
theorem Ui{p:od}{sc:nV}{body:List Stmt}{fd:FuncData}(af:NS aR w con KF B mg mb GT ft)(F:FnS GT ft f p sc body)(hs:fd.scope=sc)(hg:fd.globals=mainGlobals)(hb:fd.builtins=builtinsNs)(L a:Addr):
  uR KF mg mb (f.pm GT ft sc) (callEnvC fd L a):=by
 subst hs;have ek:∀x,(callEnvC fd L a).kindOf x=fd.scope.names.lookup x:=λx=>rfl;have nm:∀{i:Nat} {x:Str},(f.pm GT ft fd.scope).nm[i]? =J x->∃k,fd.scope.names[i]? =J (x,k):=λ{i x} h=>
  (dj.mp ((cY (f:=(·.1)) (l:=fd.scope.names) (i:=i)).symm.trans (show(fd.scope.names.map (·.1))[i]? =J x from h))).elim λy h=>⟨y.2,h.1.trans (cI J (iJ h.2 rfl))⟩
 refine⟨F.kind,hg,hb,λi x k h=>?_,λi x h=>cellsFrom_some _ _ _ (.inl (r4 F.dist (vr h).1)),λi x k h z j hj=>(nm hj).elim λk' h2=>Jl F.dist h2 (vr h).1,λi x g h=>?_,af.ft⟩
 .have h:=(vr h).1;exact⟨r4 F.dist h,F.dbg _ (dD h),Nz rfl h⟩
 .have q:=Rl h;obtain⟨o,q2,e⟩:=dj.mp ((cY (l:=f.gs) (i:=i)).symm.trans q.2);cases o with
  | none=>exact nomatch e
  | some j=>
   obtain⟨x',pp,g1,g2,g3⟩:=VU F.gs q2;have e:(GT[j]?).map (·.2)=J g:=e;rw[g2] at e;have ex:x=pp.1:=(cI kM (ss q.1 g1)).trans g3;have t:=af.gt pp (dD g2);exact⟨r4 F.dist q.1,ex▸t.2,ex▸cL e▸t.1⟩
theorem RL(af:NS aR w con KF B mg mb GT ft)(FA:Zo B a p sc body)(c:SQ GT ft f p sc body=b9)(hl:vs.length=f.na)(h:o6 T.length T->uO (KO aR w B con d) f.body (oU sc.names.length vs) T (qP T.length Q)):(KO aR w B con (d+1)).call a vs T Q:=by
 intro A Z s aF r R m;have F:=Pr c;obtain⟨o,fd,ho,hd,hp,hbody,hs,hg,hb,hcl,hdf,hcr⟩:=FA.at_;have hs':=hs;subst hp;subst hs;have hlen:fd.params.args.length=aF.length:=by rw[F.len,<-hl,m.length]
 have hbind:=JX F.args hdf hlen F.dist F.pre;have kindB:∀x∈(fd.params.args.map (·.arg)).zip aF,∃(j:Nat) (a:Arg) (k:nH),fd.params.args[j]? =J a/\a.arg=x.1/\fd.scope.names[j]? =J (x.1,k)/\FN k=b9:=λx hx=>by
  obtain⟨j,hj⟩:=iX hx;rw[List.getElem?_zip_eq_some] at hj;obtain⟨h1,h2⟩:=hj;rw[cY] at h1;cases q:fd.params.args[j]? with
  | none=>rw[q] at h1;cases h1
  | some b=>
   rw[q] at h1;simp only[mM,jA] at h1;obtain⟨k,g1,g2⟩:=G4 F.pre q;exact⟨j,b,k,q,h1,h1▸g1,g2⟩
 refine(codeAny_call_cells (fd:=fd) (by have:=r.2.1;unfold recursionLimit;lia) (R.base _ _ ho) hd (af.nl.keeps R.base) (hcr.keeps R.base) hbody hbind hcl (λx hx=>?_) (λs1 x=>?_) F.co F.gen F.kind)
 .obtain⟨j,b,k,h1,h2,h3,h4⟩:=kindB x hx;have:=r4 F.dist h3;cases k<;>first | (cases h4;done) | skip
  .exact .inl this
  .exact .inr ⟨this,cellsFrom_some _ _ _ (.inl this)⟩
 .have X:=Ui af F rfl hg hb s.heap.objs.size a;have kp:=x.toInCall.keep;obtain⟨h1,tk,rfl⟩:=x.toInCall.same;dsimp only at kp;have none_up:∀{b:Addr},h1.get? b=U->s.heap.get? b=U:=λ{b} hn=>by
   cases q:s.heap.get? b with
   | none=>rfl
   | some o=>rw[kp b o q] at hn;cases hn
  have noF:∀{b:Addr},Vy (callEnvC fd s.heap.objs.size a) b->s.heap.get? b=U:=λ{b} hf=>by
   refine iW ?_;rcases hf with rfl | ⟨y,hy⟩
   .exact x.toInCall.fresh
   .exact dJ (ar x.toInCall.fresh (x.above y b (nS hy)))
  have R1:pA B Z T h1:=R.out (λi p hp=>⟨λo g=>kp _ _ g,λo g=>kp _ _ g⟩) λb o g=>kp _ _ (R.base b o g);have outF:∀{b:Addr},Vy (callEnvC fd s.heap.objs.size a) b->BU Z b/\B.get? b=U:=λ{b} hf=>R.fresh (noF hf);have slot:∀(i:Nat) (y:Str) (v:V),(f.pm GT ft fd.scope).nm[i]? =J y->(oU fd.scope.names.length vs)[i]? =J (J v)->∃b u k,fd.params.args[i]? =J b/\b.arg=y/\aF[i]? =J u/\VR Z v u/\fd.scope.names[i]? =J (y,k):=λi y v h1 h2=>by
   obtain⟨hi,hv⟩:=JW h2;obtain⟨u,g1,g2⟩:=m.get hv;have hi':i<fd.params.args.length:=by rw[F.len,<-hl];exact hi
   obtain⟨k,g3,_⟩:=G4 F.pre (a7 hi');unfold Pm.nm Fn.pm at h1;dsimp only at h1;rw[cY,g3] at h1;cases h1;exact⟨fd.params.args[i],u,k,a7 hi',rfl,g1,g2,g3⟩
  have BA:=Ki (callEnvC fd s.heap.objs.size a).kindOf fd.params.args fd.scope.names aF (λt=>U) (λt=>U) F.dist F.pre hlen;have Y:qD (f.pm GT ft fd.scope) (callEnvC fd s.heap.objs.size a) B Z (oU fd.scope.names.length vs) h1:=by
   refine⟨⟨_,x.toInCall.ns,λi y v g1 g2 g3=>?_⟩,λy c hc=>⟨_,x.cell y c hc,λi v g1 g2 g3=>?_⟩,outF (.inl rfl),λy c hc=>?_,λy z c h1 h2=>name_of_addr x.apart (nS h1) (nS h2)⟩
   .obtain⟨b,u,k,e1,e2,e3,e4,e5⟩:=slot i y v g1 g2;subst e2;exact⟨u,(BA.1 i b u e1 e3).1 g3,e4⟩
   .obtain⟨b,u,k,e1,e2,e3,e4,e5⟩:=slot i y v g1 g2;subst e2;exact⟨u,(BA.1 i b u e1 e3).2 (by rw[g3];exact nofun),e4⟩
   .have z:=outF (b:=c) (.inr ⟨y,hc⟩);exact⟨z.1,z.2,fh (x.above y c (nS hc))⟩
  have hb:=h R.closed;refine goS (Go (af.sta d) (MY aR w B con d) (Vt aR w B con d) f.body (f.pm GT ft fd.scope) (callEnvC fd s.heap.objs.size a) (A.deeper (callEnvC fd s.heap.objs.size a)) body (oU fd.scope.names.length vs) Z T {s with heap:=h1,toks:=tk} _ F.body rfl X (r.deeper _) Y R1 hb) λfl flow e2 aJ bB s2 q2 p2 r2=>?_;have fin:∀{v:V} {val:nr},VR bB v val->vU B Z s aJ v bB val s2:=λ{v val} hv=>
   ⟨⟨p2.ext.old,λi p hi hp=>⟨none_up (p2.ext.new i p hi hp).1,none_up (p2.ext.new i p hi hp).2⟩⟩,p2.rel,λb o g n=>p2.keep b o (kp b o g) n λhf=>(by rw[noF hf] at g;cases g),hv,p2.gens,p2.os⟩
  have hn:T.length=Z.length:=R.len.symm;cases fl<;>cases flow<;>first | exact(r2:False).elim | exact(q2:False).elim | skip
  .exact Gc (fin (show VR bB .none .none from trivial)) (hn▸q2)
  .exact Gc (fin r2) (hn▸q2)
theorem uH.make(r:uH A (d+1))(C:Addr)(aF:List nr):uH (A.under (.builtin "type.__call__" ⟨.ref C::aF,[]⟩)) d:=by
 obtain⟨h1,h2,h3⟩:=r;refine⟨h1,?_,?_⟩
 .rw[depth_under_make];lia
 .rw[units_under_make];lia
theorem Qj(af:NS aR w con KF B mg mb GT ft)(hm:makesIn KF (uh c)=b9)(hi:findIn KF (.ref (uh c)) "__init__"=J (J (.ref fI)))(hf:typeIn KF (.ref fI)=J (.type "function"))(h:(KO aR w B con d).call fI (.ref T.length::vs) (T++[.inst c []]) λv aK=>v= .none/\Q (.ref T.length) aK):(KO aR w B con (d+1)).call (uh c) vs T Q:=by
 intro A Z s aF r R m;have X:=af.bV.keeps R.base;obtain⟨hh,g,dr,t,os⟩:=s;refine(make_core (makes_of X hm) (looks_findIn X hi) (λself=>bind_fn X self hf) (.inl rfl) ?_);have n1:=qM hh;have n2:hh.get? (hh.objs.size+1)=U:=iW (my _);have kp:∀b o,hh.get? b=J o->((hh.push emptyDict).push (instObj (uh c) hh.objs.size)).get? b=J o:=λb o e=>dB _ (dB _ e);have R1:pA B (Z++[(hh.objs.size+1,hh.objs.size)]) (T++[.inst c []]) ((hh.push emptyDict).push (instObj (uh c) hh.objs.size)):=by
  refine R.new _ _ _ ⟨mu _,?_,[],0,?_,.nil⟩ n2 n1 kp
  .have:=gF (hh.push emptyDict) (o:=instObj (uh c) hh.objs.size) rfl;rw[mY] at this;exact this
  .exact dB _ (gF _ rfl)
 have P1:vU B Z ⟨hh,g,dr,t,os⟩ (T++[.inst c []]) .none (Z++[(hh.objs.size+1,hh.objs.size)]) .none ⟨(hh.push emptyDict).push (instObj (uh c) hh.objs.size),g,dr,t,os⟩:=
  ⟨.snoc _ _ n2 n1,R1,λb o e u=>kp b o e,trivial,rfl,rfl⟩
 have sl:(Z++[(hh.objs.size+1,hh.objs.size)])[T.length]? =J (hh.objs.size+1,hh.objs.size):=by rw[<- R.len];exact um _ _
 have C:=h _ (Z++[(hh.objs.size+1,hh.objs.size)]) ⟨(hh.push emptyDict).push (instObj (uh c) hh.objs.size),g,dr,t,os⟩ (.ref (hh.objs.size+1)::aF) (r.make (uh c) aF) R1 (.cons ⟨_,sl⟩ (m.mono λi p e=>uC e));refine codeAny_mono C λr s2 z=>?_;rcases r with e | (val | _ | _ | _)<;>first | exact(z:False).elim | skip
 obtain⟨v,aJ,⟨hv,q⟩,bB,p2⟩:=z;subst hv;obtain rfl:=p2.val.none_inv;exact⟨rfl,Bk.at_ (P1.trans (p2.bA (show VR bB (.ref T.length) (.ref (hh.objs.size+1)) from⟨_,p2.ext.old _ _ sl⟩))) q⟩
end
end
def YU:Stmt->List Stmt
 | .FunctionDef _ _ body _ _ _ _ _ _ _=>body
 | _=>[]
def gi(n:Int):GV:=.val (.int n)
def gc(n:Nat):GV:=.val (.con n)
def GT:List (Str × GV):=([("PROMOTION",gi 1),("KNIGHT",gi 2),("NO_KIND",gi 0),("highest",gc 84),("range",.range),("direction",gc 105),("line",gc 119),("STEP_RANKS",gc 160),("STEP_FILES",gc 159),("is_growing",gc 188),("inner_squares",gc 202),("add_castles",gc 230),("add_knights",gc 223),("add_pawns",gc 216),("add_rays",gc 209),("add_masks",gc 195),("Geometry",gc 177),("ray_attacks",gc 244),("rook_attacks",gc 251),("bishop_attacks",gc 258),("QUEEN",gi 5),("queen_attacks",gc 265),("ROOK",gi 4),("BISHOP",gi 3),("slider_attacks",gc 272),("KING",gi 6),("PAWN",gi 1),("WHITE",gi 0),("EMPTY",gi 0),("side_of",gc 28),("kind_of",gc 35),("BLACK",gi 1),("lowest",gc 91),("pawn_attackers",gc 363),("slanting_sliders",gc 356),("straight_sliders",gc 349),("line_attackers",gc 377),("step_attackers",gc 370),("attackers_to",gc 384),("king_square",gc 342),("checkers_of",gc 398),("is_attacked",gc 391),("in_check_of",gc 412),("squares_of",gc 98),("more_than_one",gc 77),("between",gc 112),("snipers_of",gc 426),("blockers",gc 433),("MAY",gi 0),("GOAL_ATTACKED",gi 6),("PASSES_ATTACK",gi 5),("IN_CHECK",gi 4),("squares_within",gc 447),("NOT_FREE",gi 3),("occupied",gc 328),("RIGHT_LOST",gi 2),("NO_WING",gi 1),("castle_refusal",gc 454),("pack_move",gc 42),("CASTLING",gi 3),("NORMAL",gi 0),("pieces",gc 335),("add_goals",gc 468),("piece_attacks",gc 279),("QUIETS",gi 1),("CAPTURES",gi 0),("shift_push",gc 510),("start_mask",gc 496),("last_mask",gc 503),("push_targets",gc 524),("push_step",gc 489),("add_promotions",gc 531),("shift_capture",gc 517),("add_pawn_captures",gc 552),("add_push_promotions",gc 545),("add_plain_pushes",gc 538),("EN_PASSANT",gi 2),("passed_pawn_square",gc 580),("add_piece_moves",gc 475),("may_answer_en_passant",gc 587),("add_en_passant",gc 566),("add_pawn_moves",gc 559),("EVASIONS",gi 3),("evasion_targets",gc 573),("checkers",gc 405),("move_special",gc 63),("move_to",gc 56),("move_from",gc 49),("taken_square_legality",gc 601),("aligned",gc 126),("is_safe_en_passant",gc 608),("add_castling",gc 461),("stage_target",gc 482),("add_evasions",gc 594),("generate",gc 622),("is_legal",gc 615),("pinned_pieces",gc 440),("in_check",gc 419),("len",.len),("reversible_plies",gc 636),("key_before",gc 643),("repetitions",gc 650),("has_legal_move",gc 629),("FIFTY_PLIES",gi 100),("is_checkmate",gc 678),("square_colour",gc 699),("bishops_on_one_colour",gc 706),("is_insufficient",gc 713),("is_repetition",gc 657),("is_fifty",gc 692),("repetition_distance",gc 664),("ONGOING",gi 0),("MATERIAL",gi 5),("REPETITION",gi 4),("FIFTY",gi 3),("STALEMATE",gi 2),("CHECKMATE",gi 1),("outcome",gc 734),("set_rights_key",gc 797),("kept_rights",gc 776),("set_ep_key",gc 790),("passed_square",gc 769),("shift_piece",gc 321),("put_piece",gc 307),("make_piece",gc 21),("move_promo",gc 70),("take_piece",gc 314),("clear_ep_key",gc 783),("taken_square_makemove",gc 755),("rook_step",gc 762),("moved_piece",gc 748),("_law_jumps",gc 850),("_law_kings",gc 841),("_law_hits",gc 857),("_law_safe",gc 864),("_law_fits",gc 876),("_law_goals",gc 869),("is_draw_in_search",gc 727),("is_draw_by_rule",gc 720),("has_repeated",gc 671),("_law_bare",gc 900),("_law_pick",gc 881),("abs",.abs),("Position",gc 296),("make_geometry",gc 237),("Zobrist",gc 828),("_law_agrees",gc 905),("undo_move",gc 811),("result_text",gc 741),("is_stalemate",gc 685),("_law_kept",gc 895),("do_move",gc 804),("_law_back",gc 888),("_law_position",gc 917),("_law_cells",gc 912)]:List (String × GV)).map λx=>(bb x.1,x.2)
def ftL:List Nat:=[21,28,35,42,49,56,63,70,77,84,91,98,105,112,119,126,177,188,195,202,209,216,223,230,237,244,251,258,265,272,279,296,307,314,321,328,335,342,349,356,363,370,377,384,391,398,405,412,419,426,433,440,447,454,461,468,475,482,489,496,503,510,517,524,531,538,545,552,559,566,573,580,587,594,601,608,615,622,629,636,643,650,657,664,671,678,685,692,699,706,713,720,727,734,741,748,755,762,769,776,783,790,797,804,811,828,857,864,869,876,881,888,895,900,905,912,917,922]
def rU(n:Nat)(l:List Nat):List (Option Nat):=cZ n U++l.map J
section
open Mine.Lake.E renaming loc->a,int->d,bin->f,attr->j,call->k,sub->l,cmp->m,glo->p,list->D,bool->F,range->L,or->M,tup->N,and->Q,len->R,append->W
open Mine.Lake.Ss renaming cons->b,nil->e
open Mine.Lake.Es renaming cons->c,nil->g
open Mine.Lake.af renaming loc->h,attr->w,sub->P
open Mine.Lake.S renaming assign->i,ret->n,ite->o,expr->v,aug->y,each->A
open Mine.Lake.V renaming int->q
open Mine.Lake.Fk renaming band->r,sub->t,bor->u,add->x,shl->z,mul->B,mod->G,shr->I,div->K,bxor->X
open Mine.Lake.Kp renaming eq->s,ne->C,lt->Y
def Hc:Fn:=⟨2,rU 2 [],b (n<|f x (f B (a 0)<|d 8)<|a 1) e⟩
def OJ:Fn:=⟨1,rU 1 [],b (n<|f I (a 0)<|d 3) e⟩
def NX:Fn:=⟨1,rU 1 [],b (n<|f r (a 0)<|d 7) e⟩
def Jt:Fn:=⟨4,rU 5 [0,1],b (i (h 4)<|d 0)<|b (o (m (a 2) s<|p 5<|q 1) (b (i (h 4)<|f t (a 3)<|p 6<|q 2) e) e)<|b (n<|f u (f u (f u (a 1)<|f z (a 0)<|d 6)<|f z (a 4)<|d 12)<|f z (a 2)<|d 14) e⟩
def Kg:Fn:=⟨1,rU 1 [],b (n<|f r (f I (a 0)<|d 6)<|d 63) e⟩
def OO:Fn:=⟨1,rU 1 [],b (n<|f r (a 0)<|d 63) e⟩
def DI:Fn:=⟨1,rU 1 [],b (n<|f r (f I (a 0)<|d 14)<|d 3) e⟩
def Hq:Fn:=⟨1,rU 1 [0,2,1],b (o (m (f r (f I (a 0)<|d 14)<|d 3) C<|p 1<|q 1) (b (n<|p 2<|q 0) e) e)<|b (n<|f x (f r (f I (a 0)<|d 12)<|d 3)<|p 3<|q 2) e⟩
def Cg:Fn:=⟨1,rU 1 [],b (n<|m (f r (a 0)<|f t (a 0)<|d 1) C<|d 0) e⟩
def Ow:Fn:=⟨1,rU 3 [],b (o (m (a 0) s<|d 0) (b (n<|.neg<|d 1) e) e)<|b (i (h 1)<|d 1)<|b (.loop (f I (a 0)<|a 1)<|b (y (h 1) B<|d 2) e)<|b (i (h 2)<|d 0)<|b (.loop (m (a 1) .gt<|d 1)<|b (y (h 1) K<|d 2)<|b (o (f I (a 0)<|a 1) (b (y (h 0) I<|a 1)<|b (y (h 2) x<|a 1) e) e) e)<|b (n<|a 2) e⟩
def RD:Fn:=⟨1,rU 1 [3],b (n<|k 1 84<|c (f r (a 0)<|.neg<|a 0) g) e⟩
def Ia:Fn:=⟨1,rU 3 [],b (i (h 1)<|D g)<|b (i (h 2)<|d 0)<|b (.loop (a 0)<|b (.loop (.not<|f r (a 0)<|d 15)<|b (y (h 0) I<|d 4)<|b (y (h 2) x<|d 4) e)<|b (o (f r (a 0)<|d 1) (b (v<|W (a 1)<|a 2) e) e)<|b (y (h 0) I<|d 1)<|b (y (h 2) x<|d 1) e)<|b (n<|a 1) e⟩
def Kk:Fn:=⟨3,rU 4 [4],b (A (h 3) (L 4<|c (d 8) g)<|b (o (f r (f I (l (l (j (a 0) 8)<|a 3)<|a 1)<|a 2)<|d 1) (b (n<|a 3) e) e) e)<|b (n<|.neg<|d 1) e⟩
def Ox:Fn:=⟨3,rU 4 [5],b (i (h 3)<|k 4 105<|c (a 0)<|c (a 1)<|c (a 2) g)<|b (o (m (a 3) Y<|d 0) (b (n<|d 0) e) e)<|b (n<|f r (l (l (j (a 0) 8)<|a 3)<|a 1)<|l (l (j (a 0) 8)<|f X (a 3)<|d 2)<|a 2) e⟩
def XO:Fn:=⟨3,rU 4 [5],b (i (h 3)<|k 4 105<|c (a 0)<|c (a 1)<|c (a 2) g)<|b (o (m (a 3) Y<|d 0) (b (n<|d 0) e) e)<|b (n<|f u (f u (l (l (j (a 0) 8)<|a 3)<|a 1)<|l (l (j (a 0) 8)<|f X (a 3)<|d 2)<|a 1)<|f z (d 1)<|a 1) e⟩
def NU:Fn:=⟨4,rU 4 [6],b (n<|m (f r (f I (k 4 119<|c (a 0)<|c (a 1)<|c (a 2) g)<|a 3)<|d 1) s<|d 1) e⟩
def wJ:Fn:=⟨5,rU 5 [],b (i (w (a 0) 0)<|a 1)<|b (i (w (a 0) 1)<|a 2)<|b (i (w (a 0) 2)<|f B (a 1)<|a 2)<|b (i (w (a 0) 3)<|f t (f z (d 1)<|f B (a 1)<|a 2)<|d 1)<|b (i (w (a 0) 4)<|Q (a 3)<|m (a 2) .ge<|d 5)<|b (i (w (a 0) 5)<|a 4)<|b (i (w (a 0) 6)<|D g)<|b (i (w (a 0) 7)<|D g)<|b (i (w (a 0) 8)<|D g)<|b (i (w (a 0) 9)<|D g)<|b (i (w (a 0) 10)<|D g)<|b (i (w (a 0) 11)<|D<|c (D g)<|c (D g) g)<|b (i (w (a 0) 12)<|D g)<|b (i (w (a 0) 13)<|D g) e⟩
def Ah:Fn:=⟨1,rU 1 [7],b (n<|M (m (l (p 1<|.con 160)<|a 0) .gt<|d 0)<|m (a 0) s<|d 1) e⟩
def BM:Fn:=⟨1,rU 5 [4],b (i (h 1)<|f t (f z (d 1)<|j (a 0) 0)<|d 1)<|b (i (h 2)<|d 0)<|b (A (h 3) (L 5<|c (j (a 0) 1) g)<|b (v<|W (j (a 0) 7)<|f z (a 1)<|f B (a 3)<|j (a 0) 0)<|b (y (h 2) u<|f z (d 1)<|f B (a 3)<|j (a 0) 0) e)<|b (A (h 4) (L 5<|c (j (a 0) 0) g)<|b (v<|W (j (a 0) 6)<|f z (a 2)<|a 4) e) e⟩
def wB:Fn:=⟨2,rU 3 [8,7],b (i (h 2)<|d 0)<|b (o (m (l (p 3<|.con 159)<|a 1) .gt<|d 0) (b (y (h 2) u<|l (j (a 0) 6)<|f t (j (a 0) 0)<|d 1) e) e)<|b (o (m (l (p 3<|.con 159)<|a 1) Y<|d 0) (b (y (h 2) u<|l (j (a 0) 6)<|d 0) e) e)<|b (o (m (l (p 4<|.con 160)<|a 1) .gt<|d 0) (b (y (h 2) u<|l (j (a 0) 7)<|f t (j (a 0) 1)<|d 1) e) e)<|b (o (m (l (p 4<|.con 160)<|a 1) Y<|d 0) (b (y (h 2) u<|l (j (a 0) 7)<|d 0) e) e)<|b (n<|f r (j (a 0) 3)<|.inv<|a 2) e⟩
def En:Fn:=⟨1,rU 8 [4,10,7,8,9],b (i (w (a 0) 9)<|.rep (c (d 0) g)<|j (a 0) 2)<|b (A (h 1) (L 8<|c (d 8) g)<|b (i (h 2)<|k 9 202<|c (a 0)<|c (a 1) g)<|b (i (h 3)<|f x (f B (l (p 10<|.con 160)<|a 1)<|j (a 0) 0)<|l (p 11<|.con 159)<|a 1)<|b (i (h 4)<|.rep (c (d 0) g)<|j (a 0) 2)<|b (i (h 5)<|L 8<|c (j (a 0) 2) g)<|b (o (k 12 188<|c (a 1) g) (b (i (h 5)<|L 8<|c (f t (j (a 0) 2)<|d 1)<|c (.neg<|d 1)<|c (.neg<|d 1) g) e) e)<|b (A (h 6) (a 5)<|b (o (f r (f I (a 2)<|a 6)<|d 1) (b (i (h 7)<|f x (a 6)<|a 3)<|b (i (P (a 4)<|a 6)<|f u (l (a 4)<|a 7)<|f z (d 1)<|a 7)<|b (y (P (j (a 0) 9)<|a 6) u<|f z (d 1)<|a 7) e) e) e)<|b (v<|W (j (a 0) 8)<|a 4) e) e⟩
def BI:Fn:=⟨1,rU 2 [4],b (A (h 1) (L 2<|c (j (a 0) 2) g)<|b (v<|W (l (j (a 0) 11)<|d 0)<|f r (l (j (a 0) 9)<|a 1)<|f u (l (l (j (a 0) 8)<|d 4)<|a 1)<|l (l (j (a 0) 8)<|d 7)<|a 1)<|b (v<|W (l (j (a 0) 11)<|d 1)<|f r (l (j (a 0) 9)<|a 1)<|f u (l (l (j (a 0) 8)<|d 5)<|a 1)<|l (l (j (a 0) 8)<|d 6)<|a 1) e) e⟩
def yp:Fn:=⟨1,rU 11 [4],b (i (h 1)<|j (a 0) 0)<|b (i (h 2)<|f r (j (a 0) 3)<|.inv<|l (j (a 0) 6)<|d 0)<|b (i (h 3)<|f r (j (a 0) 3)<|.inv<|l (j (a 0) 6)<|f t (a 1)<|d 1)<|b (i (h 4)<|f r (a 2)<|.inv<|l (j (a 0) 6)<|d 1)<|b (i (h 5)<|f r (a 3)<|.inv<|l (j (a 0) 6)<|f t (a 1)<|d 2)<|b (A (h 6) (L 11<|c (j (a 0) 2) g)<|b (i (h 7)<|f z (d 1)<|a 6)<|b (i (h 8)<|f u (f r (f z (a 7)<|d 1)<|a 2)<|f r (f I (a 7)<|d 1)<|a 3)<|b (i (h 9)<|f u (f r (f z (a 7)<|d 2)<|a 4)<|f r (f I (a 7)<|d 2)<|a 5)<|b (i (h 10)<|f u (f u (f u (f z (a 8)<|f B (d 2)<|a 1)<|f I (a 8)<|f B (d 2)<|a 1)<|f z (a 9)<|a 1)<|f I (a 9)<|a 1)<|b (v<|W (j (a 0) 10)<|f r (a 10)<|j (a 0) 3) e) e⟩
def yn:Fn:=⟨1,rU 7 [4],b (i (w (a 0) 13)<|.rep (c (d 0) g)<|j (a 0) 2)<|b (i (h 1)<|f K (j (a 0) 0)<|d 2)<|b (A (h 2) (L 7<|c (d 4) g)<|b (i (h 3)<|f B (f B (f I (a 2)<|d 1)<|f t (j (a 0) 1)<|d 1)<|j (a 0) 0)<|b (i (h 4)<|f t (j (a 0) 0)<|d 1)<|b (i (h 5)<|d 1)<|b (o (f r (a 2)<|d 1) (b (i (h 4)<|d 0)<|b (i (h 5)<|.neg<|d 1) e) e)<|b (i (h 6)<|f x (a 1)<|f B (d 2)<|a 5)<|b (o (Q (j (a 0) 5)<|m (f B (f t (a 4)<|a 6)<|a 5) .gt<|d 0) (b (v<|W (j (a 0) 12)<|N<|c (f x (a 3)<|a 1)<|c (f x (a 3)<|a 6)<|c (f x (a 3)<|a 4)<|c (f t (f x (a 3)<|a 6)<|a 5) g)<|b (y (P (j (a 0) 13)<|f x (a 3)<|a 1) u<|f z (d 1)<|a 2)<|b (y (P (j (a 0) 13)<|f x (a 3)<|a 4) u<|f z (d 1)<|a 2) e)<|b (v<|W (j (a 0) 12) .bK) e) e) e⟩
def wE:Fn:=⟨4,rU 6 [16,15,14,13,12,11],b (o (M (m (a 0) Y<|d 2)<|M (m (a 0) .gt<|d 8)<|M (m (a 1) Y<|d 3)<|m (a 1) .gt<|d 8) (b .fail e) e)<|b (i (h 4)<|k 6 177<|c (a 0)<|c (a 1)<|c (a 2)<|c (a 3) g)<|b (v<|k 7 195<|c (a 4) g)<|b (v<|k 8 209<|c (a 4) g)<|b (v<|k 9 216<|c (a 4) g)<|b (v<|k 10 223<|c (a 4) g)<|b (v<|k 11 230<|c (a 4) g)<|b (n<|a 4) e⟩
def FS:Fn:=⟨4,rU 7 [9],b (i (h 4)<|l (l (j (a 0) 8)<|a 1)<|a 2)<|b (i (h 5)<|f r (a 4)<|a 3)<|b (o (m (a 5) s<|d 0) (b (n<|a 4) e) e)<|b (o (k 7 188<|c (a 1) g) (b (n<|f r (a 4)<|f X (a 5)<|f t (a 5)<|d 1) e) e)<|b (i (h 6)<|f I (a 5)<|d 1)<|b (y (h 6) u<|f I (a 6)<|d 1)<|b (y (h 6) u<|f I (a 6)<|d 2)<|b (y (h 6) u<|f I (a 6)<|d 4)<|b (y (h 6) u<|f I (a 6)<|d 8)<|b (y (h 6) u<|f I (a 6)<|d 16)<|b (y (h 6) u<|f I (a 6)<|d 32)<|b (n<|f r (a 4)<|.inv<|a 6) e⟩
def EV:Fn:=⟨3,rU 5 [4,17],b (i (h 3)<|d 0)<|b (A (h 4) (L 5<|c (d 4) g)<|b (y (h 3) u<|k 6 244<|c (a 0)<|c (a 4)<|c (a 1)<|c (a 2) g) e)<|b (n<|a 3) e⟩
def A9:Fn:=⟨3,rU 5 [4,17],b (i (h 3)<|d 0)<|b (A (h 4) (L 5<|c (d 4)<|c (d 8) g)<|b (y (h 3) u<|k 6 244<|c (a 0)<|c (a 4)<|c (a 1)<|c (a 2) g) e)<|b (n<|a 3) e⟩
def CG:Fn:=⟨3,rU 3 [18,19],b (n<|f u (k 3 251<|c (a 0)<|c (a 1)<|c (a 2) g)<|k 4 258<|c (a 0)<|c (a 1)<|c (a 2) g) e⟩
def BB:Fn:=⟨4,rU 4 [23,19,22,18,20,21],b (o (m (a 1) s<|p 4<|q 3) (b (n<|k 5 258<|c (a 0)<|c (a 2)<|c (a 3) g) e) e)<|b (o (m (a 1) s<|p 6<|q 4) (b (n<|k 7 251<|c (a 0)<|c (a 2)<|c (a 3) g) e) e)<|b (o (m (a 1) s<|p 8<|q 5) (b (n<|k 9 265<|c (a 0)<|c (a 2)<|c (a 3) g) e) e)<|b (n<|d 0) e⟩
def Cu:Fn:=⟨5,rU 5 [26,1,25,24],b (o (m (a 2) s<|p 5<|q 1) (b (n<|l (l (j (a 0) 11)<|a 1)<|a 3) e) e)<|b (o (m (a 2) s<|p 6<|q 2) (b (n<|l (j (a 0) 10)<|a 3) e) e)<|b (o (m (a 2) s<|p 7<|q 6) (b (n<|l (j (a 0) 9)<|a 3) e) e)<|b (n<|k 8 272<|c (a 0)<|c (a 2)<|c (a 3)<|c (a 4) g) e⟩
def wC:Fn:=⟨3,rU 3 [28,27],b (i (w (a 0) 14)<|a 1)<|b (i (w (a 0) 15)<|a 2)<|b (i (w (a 0) 16)<|.rep (c (p 3<|q 0) g)<|j (a 1) 2)<|b (i (w (a 0) 17)<|.rep (c (d 0) g)<|d 7)<|b (i (w (a 0) 18)<|D<|c (d 0)<|c (d 0) g)<|b (i (w (a 0) 19)<|p 4<|q 0)<|b (i (w (a 0) 20)<|d 0)<|b (i (w (a 0) 21)<|.neg<|d 1)<|b (i (w (a 0) 22)<|d 0)<|b (i (w (a 0) 3)<|d 1)<|b (i (w (a 0) 23)<|d 0)<|b (i (w (a 0) 24)<|D g) e⟩
def Jc:Fn:=⟨3,rU 4 [30,29],b (i (h 3)<|f z (d 1)<|a 2)<|b (i (P (j (a 0) 16)<|a 2)<|a 1)<|b (y (P (j (a 0) 17)<|k 4 35<|c (a 1) g) u<|a 3)<|b (y (P (j (a 0) 18)<|k 5 28<|c (a 1) g) u<|a 3)<|b (y (w (a 0) 23) X<|l (l (j (j (a 0) 15) 25)<|a 1)<|a 2) e⟩
def HD:Fn:=⟨2,rU 4 [28,30,29],b (i (h 2)<|l (j (a 0) 16)<|a 1)<|b (i (h 3)<|f z (d 1)<|a 1)<|b (i (P (j (a 0) 16)<|a 1)<|p 4<|q 0)<|b (y (P (j (a 0) 17)<|k 5 35<|c (a 2) g) X<|a 3)<|b (y (P (j (a 0) 18)<|k 6 28<|c (a 2) g) X<|a 3)<|b (y (w (a 0) 23) X<|l (l (j (j (a 0) 15) 25)<|a 2)<|a 1)<|b (n<|a 2) e⟩
def FM:Fn:=⟨3,rU 6 [28,30,29],b (i (h 3)<|l (j (a 0) 16)<|a 1)<|b (i (h 4)<|f u (f z (d 1)<|a 1)<|f z (d 1)<|a 2)<|b (i (P (j (a 0) 16)<|a 1)<|p 6<|q 0)<|b (i (P (j (a 0) 16)<|a 2)<|a 3)<|b (y (P (j (a 0) 17)<|k 7 35<|c (a 3) g) X<|a 4)<|b (y (P (j (a 0) 18)<|k 8 28<|c (a 3) g) X<|a 4)<|b (i (h 5)<|l (j (j (a 0) 15) 25)<|a 3)<|b (y (w (a 0) 23) X<|f X (l (a 5)<|a 1)<|l (a 5)<|a 2) e⟩
def Mm:Fn:=⟨1,rU 1 [27,31],b (n<|f u (l (j (a 0) 18)<|p 1<|q 0)<|l (j (a 0) 18)<|p 2<|q 1) e⟩
def SH:Fn:=⟨3,rU 3 [],b (n<|f r (l (j (a 0) 18)<|a 1)<|l (j (a 0) 17)<|a 2) e⟩
def FL:Fn:=⟨2,rU 2 [32,25],b (n<|k 2 91<|c (f r (l (j (a 0) 18)<|a 1)<|l (j (a 0) 17)<|p 3<|q 6) g) e⟩
def yJ:Fn:=⟨1,rU 1 [22,20],b (n<|f u (l (j (a 0) 17)<|p 1<|q 4)<|l (j (a 0) 17)<|p 2<|q 5) e⟩
def yB:Fn:=⟨1,rU 1 [23,20],b (n<|f u (l (j (a 0) 17)<|p 1<|q 3)<|l (j (a 0) 17)<|p 2<|q 5) e⟩
def A4:Fn:=⟨3,rU 3 [26],b (n<|f r (f r (l (l (j (j (a 0) 14) 11)<|f t (d 1)<|a 2)<|a 1)<|l (j (a 0) 17)<|p 3<|q 1)<|l (j (a 0) 18)<|a 2) e⟩
def BF:Fn:=⟨3,rU 5 [1,25,33],b (i (h 3)<|j (a 0) 14)<|b (i (h 4)<|f r (l (j (a 3) 10)<|a 1)<|l (j (a 0) 17)<|p 5<|q 2)<|b (y (h 4) u<|f r (l (j (a 3) 9)<|a 1)<|l (j (a 0) 17)<|p 6<|q 6)<|b (n<|f u (k 7 363<|c (a 0)<|c (a 1)<|c (a 2) g)<|f r (a 4)<|l (j (a 0) 18)<|a 2) e⟩
def AH:Fn:=⟨3,rU 6 [35,18,34,19],b (i (h 3)<|d 0)<|b (i (h 4)<|k 6 349<|c (a 0) g)<|b (o (a 4) (b (y (h 3) u<|f r (k 7 251<|c (j (a 0) 14)<|c (a 1)<|c (a 2) g)<|a 4) e) e)<|b (i (h 5)<|k 8 356<|c (a 0) g)<|b (o (a 5) (b (y (h 3) u<|f r (k 9 258<|c (j (a 0) 14)<|c (a 1)<|c (a 2) g)<|a 5) e) e)<|b (n<|a 3) e⟩
def D1:Fn:=⟨3,rU 4 [37,27,31,36],b (i (h 3)<|f u (k 4 370<|c (a 0)<|c (a 1)<|c (p 5<|q 0) g)<|k 4 370<|c (a 0)<|c (a 1)<|c (p 6<|q 1) g)<|b (n<|f u (a 3)<|k 7 377<|c (a 0)<|c (a 1)<|c (a 2) g) e⟩
def FF:Fn:=⟨4,rU 8 [37,35,18,34,19],b (o (k 8 370<|c (a 0)<|c (a 1)<|c (a 2) g) (b (n<|F b9) e) e)<|b (i (h 4)<|j (a 0) 14)<|b (i (h 5)<|l (j (a 0) 18)<|a 2)<|b (i (h 6)<|f r (k 9 349<|c (a 0) g)<|a 5)<|b (o (Q (a 6)<|f r (k 10 251<|c (a 4)<|c (a 1)<|c (a 3) g)<|a 6) (b (n<|F b9) e) e)<|b (i (h 7)<|f r (k 11 356<|c (a 0) g)<|a 5)<|b (n<|Q (m (a 7) C<|d 0)<|m (f r (k 12 258<|c (a 4)<|c (a 1)<|c (a 3) g)<|a 7) C<|d 0) e⟩
def FU:Fn:=⟨2,rU 3 [27,31,38,39],b (i (h 2)<|f u (l (j (a 0) 18)<|p 3<|q 0)<|l (j (a 0) 18)<|p 4<|q 1)<|b (n<|f r (k 5 384<|c (a 0)<|c (k 6 342<|c (a 0)<|c (a 1) g)<|c (a 2) g)<|l (j (a 0) 18)<|f t (d 1)<|a 1) e⟩
def LQ:Fn:=⟨1,rU 1 [40],b (n<|k 1 398<|c (a 0)<|c (j (a 0) 19) g) e⟩
def Fv:Fn:=⟨2,rU 3 [27,31,41,39],b (i (h 2)<|f u (l (j (a 0) 18)<|p 3<|q 0)<|l (j (a 0) 18)<|p 4<|q 1)<|b (n<|k 5 391<|c (a 0)<|c (k 6 342<|c (a 0)<|c (a 1) g)<|c (f t (d 1)<|a 1)<|c (a 2) g) e⟩
def Li:Fn:=⟨1,rU 1 [42],b (n<|k 1 412<|c (a 0)<|c (j (a 0) 19) g) e⟩
def Ih:Fn:=⟨2,rU 4 [39,18,35,19,34],b (i (h 2)<|k 4 342<|c (a 0)<|c (a 1) g)<|b (i (h 3)<|f r (k 5 251<|c (j (a 0) 14)<|c (a 2)<|c (d 0) g)<|k 6 349<|c (a 0) g)<|b (y (h 3) u<|f r (k 7 258<|c (j (a 0) 14)<|c (a 2)<|c (d 0) g)<|k 8 356<|c (a 0) g)<|b (n<|f r (a 3)<|l (j (a 0) 18)<|f t (d 1)<|a 1) e⟩
def Lk:Fn:=⟨2,rU 9 [39,46,27,31,43,45,44],b (i (h 2)<|k 9 342<|c (a 0)<|c (a 1) g)<|b (i (h 3)<|k 10 426<|c (a 0)<|c (a 1) g)<|b (i (h 4)<|f X (f u (l (j (a 0) 18)<|p 11<|q 0)<|l (j (a 0) 18)<|p 12<|q 1)<|a 3)<|b (i (h 5)<|d 0)<|b (i (h 6)<|d 0)<|b (A (h 7) (k 13 98<|c (a 3) g)<|b (i (h 8)<|f r (k 14 112<|c (j (a 0) 14)<|c (a 2)<|c (a 7) g)<|a 4)<|b (o (Q (a 8)<|.not<|k 15 77<|c (a 8) g) (b (y (h 5) u<|a 8)<|b (o (f r (a 8)<|l (j (a 0) 18)<|a 1) (b (y (h 6) u<|f z (d 1)<|a 7) e) e) e) e) e)<|b (n<|N<|c (a 5)<|c (a 6) g) e⟩
def Ce:Fn:=⟨2,rU 2 [47],b (n<|f r (l (k 2 433<|c (a 0)<|c (a 1) g)<|d 0)<|l (j (a 0) 18)<|a 1) e⟩
def Bu:Fn:=⟨2,rU 2 [],b (o (m (a 0) Y<|a 1) (b (n<|f t (f z (d 1)<|a 1)<|f z (d 2)<|a 0) e) e)<|b (n<|f t (f z (d 1)<|a 0)<|f z (d 2)<|a 1) e⟩
def Bi:Fn:=⟨2,rU 9 [56,55,54,52,53,41,51,50,49,48],b (i (h 2)<|l (j (j (a 0) 14) 12)<|a 1)<|b (o (m (a 2) .is .bK) (b (n<|p 9<|q 1) e) e)<|b (o (m (f r (j (a 0) 20)<|f z (d 1)<|a 1) s<|d 0) (b (n<|p 10<|q 2) e) e)<|b (i (.tup [3,4,5,6])<|a 2)<|b (i (h 7)<|k 11 328<|c (a 0) g)<|b (o (f r (a 7)<|k 12 447<|c (a 3)<|c (a 5) g) (b (n<|p 13<|q 3) e) e)<|b (i (h 8)<|f t (d 1)<|f I (a 1)<|d 1)<|b (o (k 14 391<|c (a 0)<|c (a 3)<|c (a 8)<|c (a 7) g) (b (n<|p 15<|q 4) e) e)<|b (o (k 14 391<|c (a 0)<|c (a 6)<|c (a 8)<|c (a 7) g) (b (n<|p 16<|q 5) e) e)<|b (o (k 14 391<|c (a 0)<|c (a 4)<|c (a 8)<|c (a 7) g) (b (n<|p 17<|q 6) e) e)<|b (n<|p 18<|q 0) e⟩
def Dp:Fn:=⟨2,rU 7 [57,48,58,59,2],b (A (h 2) (D<|c (f B (d 2)<|j (a 0) 19)<|c (f x (f B (d 2)<|j (a 0) 19)<|d 1) g)<|b (o (m (k 7 454<|c (a 0)<|c (a 2) g) s<|p 8<|q 0) (b (i (.tup [3,4,5,6])<|l (j (j (a 0) 14) 12)<|a 2)<|b (v<|W (a 1)<|k 9 42<|c (a 3)<|c (a 4)<|c (p 10<|q 3)<|c (p 11<|q 0) g) e) e) e) e⟩
def IL:Fn:=⟨3,rU 4 [43,58,60,2],b (A (h 3) (k 4 98<|c (a 1) g)<|b (v<|W (a 2)<|k 5 42<|c (a 0)<|c (a 3)<|c (p 6<|q 0)<|c (p 7<|q 0) g) e) e⟩
def zy:Fn:=⟨4,rU 7 [54,43,61,63,62],b (i (h 4)<|k 7 328<|c (a 0) g)<|b (A (h 5) (k 8 98<|c (k 9 335<|c (a 0)<|c (j (a 0) 19)<|c (a 1) g) g)<|b (i (h 6)<|k 10 279<|c (j (a 0) 14)<|c (j (a 0) 19)<|c (a 1)<|c (a 5)<|c (a 4) g)<|b (v<|k 11 468<|c (a 5)<|c (f r (a 6)<|a 2)<|c (a 3) g) e) e⟩
def EA:Fn:=⟨2,rU 2 [65,64,54],b (o (m (a 1) s<|p 2<|q 0) (b (n<|l (j (a 0) 18)<|f t (d 1)<|j (a 0) 19) e) e)<|b (o (m (a 1) s<|p 3<|q 1) (b (n<|f r (j (j (a 0) 14) 3)<|.inv<|k 4 328<|c (a 0) g) e) e)<|b (n<|f r (j (j (a 0) 14) 3)<|.inv<|l (j (a 0) 18)<|j (a 0) 19) e⟩
def J9:Fn:=⟨2,rU 2 [27],b (o (m (a 1) s<|p 2<|q 0) (b (n<|j (a 0) 0) e) e)<|b (n<|.neg<|j (a 0) 0) e⟩
def J7:Fn:=⟨2,rU 2 [27],b (o (m (a 1) s<|p 2<|q 0) (b (n<|l (j (a 0) 7)<|f t (j (a 0) 1)<|d 1) e) e)<|b (n<|l (j (a 0) 7)<|d 0) e⟩
def Hh:Fn:=⟨3,rU 3 [27],b (o (m (a 2) s<|p 3<|q 0) (b (n<|f r (f z (a 1)<|j (a 0) 0)<|j (a 0) 3) e) e)<|b (n<|f I (a 1)<|j (a 0) 0) e⟩
def CQ:Fn:=⟨4,rU 4 [66],b (o (m (a 3) s<|d 0) (b (n<|f z (k 4 510<|c (a 0)<|c (f r (a 1)<|.inv<|l (j (a 0) 6)<|f t (j (a 0) 0)<|d 1)<|c (a 2) g)<|d 1) e) e)<|b (n<|f I (k 4 510<|c (a 0)<|c (f r (a 1)<|.inv<|l (j (a 0) 6)<|d 0)<|c (a 2) g)<|d 1) e⟩
def Fi:Fn:=⟨2,rU 8 [54,61,26,66,67],b (i (h 2)<|j (a 0) 14)<|b (i (h 3)<|f r (j (a 2) 3)<|.inv<|k 8 328<|c (a 0) g)<|b (i (h 4)<|k 9 335<|c (a 0)<|c (a 1)<|c (p 10<|q 1) g)<|b (i (h 5)<|f r (k 11 510<|c (a 2)<|c (a 4)<|c (a 1) g)<|a 3)<|b (i (h 6)<|d 0)<|b (o (j (a 2) 4) (b (i (h 7)<|f r (k 11 510<|c (a 2)<|c (f r (a 4)<|k 12 496<|c (a 2)<|c (a 1) g)<|c (a 1) g)<|a 3)<|b (i (h 6)<|f r (k 11 510<|c (a 2)<|c (a 7)<|c (a 1) g)<|a 3) e) e)<|b (n<|N<|c (a 5)<|c (a 6) g) e⟩
def BE:Fn:=⟨5,rU 7 [64,58,0,20,65,22,23,1],b (o (m (a 2) C<|p 7<|q 1) (b (v<|W (a 4)<|k 8 42<|c (a 0)<|c (a 1)<|c (p 9<|q 1)<|c (p 10<|q 5) g) e) e)<|b (o (m (a 2) s<|p 11<|q 0) (b (i (h 5)<|a 3) e)<|b (o (m (a 2) s<|p 7<|q 1) (b (i (h 5)<|.not<|a 3) e)<|b (i (h 5)<|F b9) e) e)<|b (o (a 5) (b (A (h 6) (D<|c (p 12<|q 4)<|c (p 13<|q 3)<|c (p 14<|q 2) g)<|b (v<|W (a 4)<|k 8 42<|c (a 0)<|c (a 1)<|c (p 9<|q 1)<|c (a 6) g) e) e) e) e⟩
def yV:Fn:=⟨3,rU 8 [70,69,43,68,58,60,2],b (i (h 3)<|j (a 0) 14)<|b (i (h 4)<|k 8 489<|c (a 3)<|c (j (a 0) 19) g)<|b (i (.tup [5,6])<|k 9 524<|c (a 0)<|c (j (a 0) 19) g)<|b (A (h 7) (k 10 98<|c (f r (f r (a 5)<|a 1)<|.inv<|k 11 503<|c (a 3)<|c (j (a 0) 19) g) g)<|b (v<|W (a 2)<|k 12 42<|c (f t (a 7)<|a 4)<|c (a 7)<|c (p 13<|q 0)<|c (p 14<|q 0) g) e)<|b (A (h 7) (k 10 98<|c (f r (a 6)<|a 1) g)<|b (v<|W (a 2)<|k 12 42<|c (f t (a 7)<|f B (d 2)<|a 4)<|c (a 7)<|c (p 13<|q 0)<|c (p 14<|q 0) g) e) e⟩
def wO:Fn:=⟨4,rU 8 [70,69,43,68,71],b (i (h 4)<|j (a 0) 14)<|b (i (h 5)<|k 8 489<|c (a 4)<|c (j (a 0) 19) g)<|b (i (h 6)<|l (k 9 524<|c (a 0)<|c (j (a 0) 19) g)<|d 0)<|b (A (h 7) (k 10 98<|c (f r (f r (a 6)<|a 2)<|k 11 503<|c (a 4)<|c (j (a 0) 19) g) g)<|b (v<|k 12 531<|c (f t (a 7)<|a 5)<|c (a 7)<|c (a 1)<|c (F cj)<|c (a 3) g) e) e⟩
def yb:Fn:=⟨4,rU 12 [68,61,26,70,43,72,71,58,60,2],b (i (h 4)<|j (a 0) 14)<|b (i (h 5)<|j (a 0) 19)<|b (i (h 6)<|k 12 503<|c (a 4)<|c (a 5) g)<|b (i (h 7)<|k 13 335<|c (a 0)<|c (a 5)<|c (p 14<|q 1) g)<|b (i (h 8)<|f r (a 2)<|l (j (a 0) 18)<|f t (d 1)<|a 5)<|b (A (h 9) (D<|c (d 0)<|c (d 1) g)<|b (i (h 10)<|f t (f x (k 15 489<|c (a 4)<|c (a 5) g)<|d 1)<|f B (d 2)<|a 9)<|b (A (h 11) (k 16 98<|c (f r (k 17 517<|c (a 4)<|c (a 7)<|c (a 5)<|c (a 9) g)<|a 8) g)<|b (o (f r (a 6)<|f z (d 1)<|a 11) (b (v<|k 18 531<|c (f t (a 11)<|a 10)<|c (a 11)<|c (a 1)<|c (F b9)<|c (a 3) g) e)<|b (v<|W (a 3)<|k 19 42<|c (f t (a 11)<|a 10)<|c (a 11)<|c (p 20<|q 0)<|c (p 21<|q 0) g) e) e) e) e⟩
def AI:Fn:=⟨4,rU 4 [65,75,74,64,73],b (o (m (a 1) C<|p 4<|q 0) (b (v<|k 5 538<|c (a 0)<|c (a 2)<|c (a 3) g) e) e)<|b (v<|k 6 545<|c (a 0)<|c (a 1)<|c (a 2)<|c (a 3) g)<|b (o (m (a 1) C<|p 7<|q 1) (b (v<|k 8 552<|c (a 0)<|c (a 1)<|c (a 2)<|c (a 3) g) e) e) e⟩
def AM:Fn:=⟨2,rU 4 [61,26,43,58,76,2],b (o (m (j (a 0) 21) Y<|d 0) (b (n .bK) e) e)<|b (i (h 2)<|f r (l (l (j (j (a 0) 14) 11)<|f t (d 1)<|j (a 0) 19)<|j (a 0) 21)<|k 4 335<|c (a 0)<|c (j (a 0) 19)<|c (p 5<|q 1) g)<|b (A (h 3) (k 6 98<|c (a 2) g)<|b (v<|W (a 1)<|k 7 42<|c (a 3)<|c (j (a 0) 21)<|c (p 8<|q 2)<|c (p 9<|q 0) g) e) e⟩
def zP:Fn:=⟨2,rU 2 [44,45,39,32],b (o (M (m (a 1) s<|d 0)<|k 2 77<|c (a 1) g) (b (n<|d 0) e) e)<|b (n<|f u (a 1)<|k 3 112<|c (j (a 0) 14)<|c (k 4 342<|c (a 0)<|c (j (a 0) 19) g)<|c (k 5 91<|c (a 1) g) g) e⟩
def vQ:Fn:=⟨2,rU 2 [77],b (o (m (j (a 0) 21) Y<|d 0) (b (n<|F cj) e) e)<|b (n<|m (f r (a 1)<|f u (f z (d 1)<|j (a 0) 21)<|f z (d 1)<|k 2 580<|c (a 0) g) C<|d 0) e⟩
def DU:Fn:=⟨2,rU 4 [83,84,81,82,79,80,1,23,22,20,78,25],b (i (h 2)<|k 4 573<|c (a 0)<|c (k 5 405<|c (a 0) g) g)<|b (o (a 2) (b (v<|k 6 559<|c (a 0)<|c (p 7<|q 3)<|c (a 2)<|c (a 1) g)<|b (o (k 8 587<|c (a 0)<|c (a 2) g) (b (v<|k 9 566<|c (a 0)<|c (a 1) g) e) e)<|b (A (h 3) (D<|c (p 10<|q 2)<|c (p 11<|q 3)<|c (p 12<|q 4)<|c (p 13<|q 5) g)<|b (v<|k 14 475<|c (a 0)<|c (a 3)<|c (a 2)<|c (a 1) g) e) e) e)<|b (v<|k 14 475<|c (a 0)<|c (p 15<|q 6)<|c (f r (j (j (a 0) 14) 3)<|.inv<|l (j (a 0) 18)<|j (a 0) 19)<|c (a 1) g) e⟩
def K8:Fn:=⟨3,rU 8 [85,59,76,90,87,86,39,27,31,41,89],b (i (h 3)<|k 8 63<|c (a 1) g)<|b (o (m (a 3) s<|p 9<|q 3) (b (n<|F b9) e) e)<|b (o (m (a 3) s<|p 10<|q 2) (b (n<|k 11 608<|c (a 0)<|c (a 1) g) e) e)<|b (i (h 4)<|k 12 49<|c (a 1) g)<|b (i (h 5)<|k 13 56<|c (a 1) g)<|b (i (h 6)<|k 14 342<|c (a 0)<|c (j (a 0) 19) g)<|b (o (m (a 4) s<|a 6) (b (i (h 7)<|f X (f u (l (j (a 0) 18)<|p 15<|q 0)<|l (j (a 0) 18)<|p 16<|q 1)<|f z (d 1)<|a 6)<|b (n<|.not<|k 17 391<|c (a 0)<|c (a 5)<|c (f t (d 1)<|j (a 0) 19)<|c (a 7) g) e) e)<|b (o (m (f r (f I (a 2)<|a 4)<|d 1) s<|d 0) (b (n<|F b9) e) e)<|b (n<|k 18 126<|c (j (a 0) 14)<|c (a 4)<|c (a 5)<|c (a 6) g) e⟩
def LX:Fn:=⟨2,rU 5 [82,93,92,81,64,80,1,23,22,20,25,78,65,91],b (i (h 2)<|D g)<|b (o (m (a 1) s<|p 5<|q 3) (b (v<|k 6 594<|c (a 0)<|c (a 2) g)<|b (n<|a 2) e) e)<|b (i (h 3)<|k 7 482<|c (a 0)<|c (a 1) g)<|b (v<|k 8 559<|c (a 0)<|c (a 1)<|c (j (j (a 0) 14) 3)<|c (a 2) g)<|b (o (m (a 1) C<|p 9<|q 1) (b (v<|k 10 566<|c (a 0)<|c (a 2) g) e) e)<|b (A (h 4) (D<|c (p 11<|q 2)<|c (p 12<|q 3)<|c (p 13<|q 4)<|c (p 14<|q 5)<|c (p 15<|q 6) g)<|b (v<|k 16 475<|c (a 0)<|c (a 4)<|c (a 3)<|c (a 2) g) e)<|b (o (m (a 1) C<|p 17<|q 0) (b (v<|k 18 461<|c (a 0)<|c (a 2) g) e) e)<|b (n<|a 2) e⟩
def BG:Fn:=⟨1,rU 5 [97,82,65,64,96,94,95],b (i (h 1)<|.ite (k 5 419<|c (a 0) g) (D<|c (p 6<|q 3) g)<|D<|c (p 7<|q 0)<|c (p 8<|q 1) g)<|b (i (h 2)<|k 9 440<|c (a 0)<|c (j (a 0) 19) g)<|b (A (h 3) (a 1)<|b (A (h 4) (k 10 622<|c (a 0)<|c (a 3) g)<|b (o (k 11 615<|c (a 0)<|c (a 4)<|c (a 2) g) (b (n<|F b9) e) e) e) e)<|b (n<|F cj) e⟩
def yW:Fn:=⟨1,rU 1 [98],b (o (m (j (a 0) 22) Y<|R 1<|j (a 0) 24) (b (n<|j (a 0) 22) e) e)<|b (n<|R 1<|j (a 0) 24) e⟩
def Ik:Fn:=⟨2,rU 2 [98],b (o (m (a 1) s<|d 0) (b (n<|j (a 0) 23) e) e)<|b (n<|l (l (j (a 0) 24)<|f t (R 2<|j (a 0) 24)<|a 1)<|d 5) e⟩
def FO:Fn:=⟨1,rU 3 [4,99,100],b (i (h 1)<|d 0)<|b (A (h 2) (L 3<|c (d 4)<|c (f x (k 4 636<|c (a 0) g)<|d 1)<|c (d 2) g)<|b (o (m (k 5 643<|c (a 0)<|c (a 2) g) s<|j (a 0) 23) (b (y (h 1) x<|d 1) e) e) e)<|b (n<|a 1) e⟩
def Cd:Fn:=⟨2,rU 2 [101],b (n<|m (f x (k 2 650<|c (a 0) g)<|d 1) .ge<|a 1) e⟩
def wM:Fn:=⟨1,rU 3 [4,99,100],b (i (h 1)<|d 0)<|b (A (h 2) (L 3<|c (d 4)<|c (f x (k 4 636<|c (a 0) g)<|d 1)<|c (d 2) g)<|b (o (m (k 5 643<|c (a 0)<|c (a 2) g) s<|j (a 0) 23) (b (o (m (a 1) .gt<|d 0) (b (n<|.neg<|a 1) e) e)<|b (i (h 1)<|a 2) e) e) e)<|b (n<|a 1) e⟩
def E8:Fn:=⟨1,rU 4 [99,4,100],b (i (h 1)<|k 4 636<|c (a 0) g)<|b (A (h 2) (L 5<|c (f x (a 1)<|d 1) g)<|b (A (h 3) (L 5<|c (f x (a 2)<|d 4)<|c (f x (a 1)<|d 1)<|c (d 2) g)<|b (o (m (k 6 643<|c (a 0)<|c (a 2) g) s<|k 6 643<|c (a 0)<|c (a 3) g) (b (n<|F b9) e) e) e) e)<|b (n<|F cj) e⟩
def EW:Fn:=⟨1,rU 1 [97,102],b (n<|Q (k 1 419<|c (a 0) g)<|.not<|k 2 629<|c (a 0) g) e⟩
def DO:Fn:=⟨1,rU 1 [97,102],b (n<|Q (.not<|k 1 419<|c (a 0) g)<|.not<|k 2 629<|c (a 0) g) e⟩
def K4:Fn:=⟨1,rU 1 [103,104],b (n<|Q (m (j (a 0) 22) .ge<|p 1<|q 100)<|.not<|k 2 678<|c (a 0) g) e⟩
def Cr:Fn:=⟨2,rU 2 [],b (n<|f r (f x (f G (a 1)<|j (a 0) 0)<|f K (a 1)<|j (a 0) 0)<|d 1) e⟩
def vO:Fn:=⟨1,rU 3 [43,23,105],b (i (h 1)<|d 0)<|b (A (h 2) (k 3 98<|c (l (j (a 0) 17)<|p 4<|q 3) g)<|b (y (h 1) u<|f z (d 1)<|k 5 699<|c (j (a 0) 14)<|c (a 2) g) e)<|b (n<|m (a 1) C<|d 3) e⟩
def zv:Fn:=⟨1,rU 2 [26,22,20,1,106,23,44],b (i (h 1)<|j (a 0) 17)<|b (o (m (f u (f u (l (a 1)<|p 2<|q 1)<|l (a 1)<|p 3<|q 4)<|l (a 1)<|p 4<|q 5) C<|d 0) (b (n<|F cj) e) e)<|b (o (m (l (a 1)<|p 5<|q 2) s<|d 0) (b (n<|k 6 706<|c (a 0) g) e) e)<|b (n<|Q (m (l (a 1)<|p 7<|q 3) s<|d 0)<|.not<|k 8 77<|c (l (a 1)<|p 5<|q 2) g) e⟩
def Aw:Fn:=⟨1,rU 1 [107,108,109],b (n<|M (k 1 713<|c (a 0) g)<|M (k 2 657<|c (a 0)<|c (d 3) g)<|k 3 692<|c (a 0) g) e⟩
def yc:Fn:=⟨2,rU 3 [109,110],b (o (k 3 692<|c (a 0) g) (b (n<|F b9) e) e)<|b (i (h 2)<|k 4 664<|c (a 0) g)<|b (n<|Q (m (a 2) C<|d 0)<|m (a 2) Y<|a 1) e⟩
def Pf:Fn:=⟨1,rU 1 [102,97,116,115,103,114,108,113,107,112,111],b (o (.not<|k 1 629<|c (a 0) g) (b (o (k 2 419<|c (a 0) g) (b (n<|p 3<|q 1) e) e)<|b (n<|p 4<|q 2) e) e)<|b (o (m (j (a 0) 22) .ge<|p 5<|q 100) (b (n<|p 6<|q 3) e) e)<|b (o (k 7 657<|c (a 0)<|c (d 3) g) (b (n<|p 8<|q 4) e) e)<|b (o (k 9 713<|c (a 0) g) (b (n<|p 10<|q 5) e) e)<|b (n<|p 11<|q 0) e⟩
def FP:Fn:=⟨1,rU 2 [117,111,116,27],b (i (h 1)<|k 2 734<|c (a 0) g)<|b (o (m (a 1) s<|p 3<|q 0) (b (n<|.str (bb "*")) e) e)<|b (o (m (a 1) C<|p 4<|q 1) (b (n<|.str (bb "1/2-1/2")) e) e)<|b (o (m (j (a 0) 19) s<|p 5<|q 0) (b (n<|.str (bb "0-1")) e) e)<|b (n<|.str (bb "1-0")) e⟩
def FJ:Fn:=⟨2,[U,U,U,U,J 87,J 86,U,J 28,J 29],b (i (h 2)<|k 4 49<|c (a 1) g)<|b (o (M (m (a 2) .ge<|j (j (a 0) 14) 2)<|m (k 5 56<|c (a 1) g) .ge<|j (j (a 0) 14) 2) (b .fail e) e)<|b (i (h 3)<|l (j (a 0) 16)<|a 2)<|b (o (M (m (a 3) s<|p 7<|q 0)<|m (k 8 28<|c (a 3) g) C<|j (a 0) 19) (b .fail e) e)<|b (n<|a 3) e⟩
def CJ:Fn:=⟨2,rU 3 [86,85,76,27],b (i (h 2)<|k 3 56<|c (a 1) g)<|b (o (m (k 4 63<|c (a 1) g) C<|p 5<|q 2) (b (n<|a 2) e) e)<|b (o (m (j (a 0) 19) s<|p 6<|q 0) (b (n<|f t (a 2)<|j (j (a 0) 14) 0) e) e)<|b (n<|f x (a 2)<|j (j (a 0) 14) 0) e⟩
def Cy:Fn:=⟨4,rU 7 [26],b (i (h 4)<|j (j (a 0) 14) 0)<|b (o (Q (m (f t (a 3)<|a 2) C<|f B (d 2)<|a 4)<|m (f t (a 2)<|a 3) C<|f B (d 2)<|a 4) (b (n<|.neg<|d 1) e) e)<|b (i (h 5)<|f K (f x (a 2)<|a 3)<|d 2)<|b (i (h 6)<|f r (l (j (a 0) 17)<|p 7<|q 1)<|l (j (a 0) 18)<|f t (d 1)<|a 1)<|b (o (m (f r (l (l (j (j (a 0) 14) 11)<|a 1)<|a 5)<|a 6) s<|d 0) (b (n<|.neg<|d 1) e) e)<|b (n<|a 5) e⟩
def FQ:Fn:=⟨3,rU 4 [],b (i (h 3)<|f u (l (j (j (a 0) 14) 13)<|a 1)<|l (j (j (a 0) 14) 13)<|a 2)<|b (n<|f t (j (a 0) 20)<|f r (j (a 0) 20)<|a 3) e⟩
def D0:Fn:=⟨1,rU 1 [],b (o (m (j (a 0) 21) .ge<|d 0) (b (y (w (a 0) 23) X<|l (j (j (a 0) 15) 21)<|f G (j (a 0) 21)<|j (j (a 0) 14) 0)<|b (i (w (a 0) 21)<|.neg<|d 1) e) e) e⟩
def G6:Fn:=⟨2,rU 2 [],b (o (m (a 1) .ge<|d 0) (b (y (w (a 0) 23) X<|l (j (j (a 0) 15) 21)<|f G (a 1)<|j (j (a 0) 14) 0) e) e)<|b (i (w (a 0) 21)<|a 1) e⟩
def AL:Fn:=⟨2,rU 2 [],b (o (m (a 1) C<|j (a 0) 20) (b (y (w (a 0) 23) X<|f X (l (j (j (a 0) 15) 20)<|j (a 0) 20)<|l (j (j (a 0) 15) 20)<|a 1)<|b (i (w (a 0) 20)<|a 1) e) e) e⟩
def OU:Fn:=⟨2,rU 10 [130,87,86,85,59,129,128,127,28,126,0,123,124,125,122,30,26,120,121,118,119,31],b (i (h 2)<|k 10 748<|c (a 0)<|c (a 1) g)<|b (i (h 3)<|j (a 0) 19)<|b (i (h 4)<|k 11 49<|c (a 1) g)<|b (i (h 5)<|k 12 56<|c (a 1) g)<|b (i (h 6)<|k 13 63<|c (a 1) g)<|b (i (h 7)<|N<|c (.neg<|d 1)<|c (.neg<|d 1) g)<|b (o (m (a 6) s<|p 14<|q 3) (b (i (h 7)<|k 15 762<|c (j (a 0) 14)<|c (a 3)<|c (a 5) g) e) e)<|b (i (h 8)<|k 16 755<|c (a 0)<|c (a 1) g)<|b (i (h 9)<|l (j (a 0) 16)<|a 8)<|b (v<|W (j (a 0) 24)<|N<|c (a 1)<|c (a 9)<|c (j (a 0) 20)<|c (j (a 0) 21)<|c (j (a 0) 22)<|c (j (a 0) 23) g)<|b (v<|k 17 783<|c (a 0) g)<|b (y (w (a 0) 22) x<|d 1)<|b (o (m (a 9) C<|p 18<|q 0) (b (v<|k 19 314<|c (a 0)<|c (a 8) g)<|b (i (w (a 0) 22)<|d 0) e) e)<|b (o (m (a 6) s<|p 20<|q 1) (b (v<|k 19 314<|c (a 0)<|c (a 4) g)<|b (v<|k 21 307<|c (a 0)<|c (k 22 21<|c (a 3)<|c (k 23 70<|c (a 1) g) g)<|c (a 5) g) e)<|b (v<|k 24 321<|c (a 0)<|c (a 4)<|c (a 5) g) e)<|b (o (m (a 6) s<|p 14<|q 3) (b (v<|k 24 321<|c (a 0)<|c (l (a 7)<|d 0)<|c (l (a 7)<|d 1) g) e) e)<|b (o (m (k 25 35<|c (a 2) g) s<|p 26<|q 1) (b (i (w (a 0) 22)<|d 0)<|b (v<|k 27 790<|c (a 0)<|c (k 28 769<|c (a 0)<|c (a 3)<|c (a 4)<|c (a 5) g) g) e) e)<|b (v<|k 29 797<|c (a 0)<|c (k 30 776<|c (a 0)<|c (a 4)<|c (a 5) g) g)<|b (o (m (a 3) s<|p 31<|q 1) (b (y (w (a 0) 3) x<|d 1) e) e)<|b (i (w (a 0) 19)<|f t (d 1)<|a 3)<|b (y (w (a 0) 23) X<|j (j (a 0) 15) 19) e⟩
def Kj:Fn:=⟨1,[U,U,U,U,U,U,U,U,U,U,U,U,J 98,U,J 87,J 86,J 85,J 0,J 126,J 123,J 124,J 26,J 122,J 59,J 129,J 28,J 128,J 31],b (o (m (R 12<|j (a 0) 24) s<|d 0) (b .fail e) e)<|b (i (.tup [1,2,3,4,5,6])<|.pop<|j (a 0) 24)<|b (i (h 7)<|f t (d 1)<|j (a 0) 19)<|b (i (w (a 0) 19)<|a 7)<|b (i (h 8)<|k 14 49<|c (a 1) g)<|b (i (h 9)<|k 15 56<|c (a 1) g)<|b (i (h 10)<|k 16 63<|c (a 1) g)<|b (o (m (a 10) s<|p 17<|q 1) (b (v<|k 18 314<|c (a 0)<|c (a 9) g)<|b (v<|k 19 307<|c (a 0)<|c (k 20 21<|c (a 7)<|c (p 21<|q 1) g)<|c (a 8) g) e)<|b (v<|k 22 321<|c (a 0)<|c (a 9)<|c (a 8) g) e)<|b (o (m (a 10) s<|p 23<|q 3) (b (i (h 11)<|k 24 762<|c (j (a 0) 14)<|c (a 7)<|c (a 9) g)<|b (v<|k 22 321<|c (a 0)<|c (l (a 11)<|d 1)<|c (l (a 11)<|d 0) g) e) e)<|b (o (m (a 2) C<|p 25<|q 0) (b (v<|k 19 307<|c (a 0)<|c (a 2)<|c (k 26 755<|c (a 0)<|c (a 1) g) g) e) e)<|b (o (m (a 7) s<|p 27<|q 1) (b (y (w (a 0) 3) t<|d 1) e) e)<|b (i (w (a 0) 20)<|a 3)<|b (i (w (a 0) 21)<|a 4)<|b (i (w (a 0) 22)<|a 5)<|b (i (w (a 0) 23)<|a 6) e⟩
def xD:Fn:=⟨5,rU 5 [],b (i (w (a 0) 25)<|a 1)<|b (i (w (a 0) 21)<|a 2)<|b (i (w (a 0) 20)<|a 3)<|b (i (w (a 0) 19)<|a 4) e⟩
def EE:Fn:=⟨4,rU 11 [132,131],b (i (h 4)<|f G (l (a 2)<|a 3)<|d 8)<|b (i (h 5)<|p 11<|.con 841)<|b (o (m (a 4) s<|d 1) (b (i (h 6)<|f t (d 1)<|f B (f K (l (a 2)<|a 3)<|d 8)<|d 2)<|b (i (h 5)<|D<|c (N<|c (d 1)<|c (a 6) g)<|c (N<|c (.neg<|d 1)<|c (a 6) g) g) e)<|b (o (m (a 4) s<|d 2) (b (i (h 5)<|p 12<|.con 850) e)<|b (o (m (a 4) s<|d 3) (b (i (h 5)<|.slice (p 11<|.con 841) (d 4) .bK) e)<|b (o (m (a 4) s<|d 4) (b (i (h 5)<|.slice (p 11<|.con 841) .bK<|d 4) e) e) e) e) e)<|b (i (h 7)<|D g)<|b (A (.tup [8,6]) (a 5)<|b (i (h 9)<|f x (f G (a 3)<|a 0)<|a 8)<|b (i (h 10)<|f x (f K (a 3)<|a 0)<|a 6)<|b (.loop (Q (.bU (d 0) .le (a 9) Y<|a 0)<|.bU (d 0) .le (a 10) Y<|a 1)<|b (v<|W (a 7)<|f x (f B (a 10)<|a 0)<|a 9)<|b (o (M (l (a 2)<|f x (f B (a 10)<|a 0)<|a 9)<|m (a 4) .isin<|N<|c (d 1)<|c (d 2)<|c (d 6) g) (b .brk e) e)<|b (y (h 9) x<|a 8)<|b (y (h 10) x<|a 6) e) e)<|b (n<|a 7) e⟩
def L5:Fn:=⟨5,rU 6 [4,98,133],b (A (h 5) (L 6<|c (R 7<|a 2) g)<|b (o (Q (l (a 2)<|a 5)<|Q (m (f K (l (a 2)<|a 5)<|d 8) C<|a 4)<|m (a 3) .isin<|k 8 857<|c (a 0)<|c (a 1)<|c (a 2)<|c (a 5) g) (b (n<|F cj) e) e) e)<|b (n<|F b9) e⟩
def J2:Fn:=⟨4,rU 7 [133],b (i (h 4)<|f K (l (a 2)<|a 3)<|d 8)<|b (i (h 5)<|k 7 857<|c (a 0)<|c (a 1)<|c (a 2)<|c (a 3) g)<|b (o (m (f G (l (a 2)<|a 3)<|d 8) C<|d 1) (b (n<|.comp (a 8) 8 (a 5)<|M (m (l (a 2)<|a 8) s<|d 0)<|m (f K (l (a 2)<|a 8)<|d 8) C<|a 4) e) e)<|b (i (h 5)<|.comp (a 8) 8 (a 5)<|Q (l (a 2)<|a 8)<|m (f K (l (a 2)<|a 8)<|d 8) C<|a 4)<|b (i (h 6)<|f t (f x (a 3)<|a 0)<|f B (f B (d 2)<|a 0)<|a 4)<|b (o (m (l (a 2)<|a 6) s<|d 0) (b (v<|W (a 5)<|a 6) e) e)<|b (n<|a 5) e⟩
def LN:Fn:=⟨5,rU 7 [134],b (i (h 5)<|f K (l (a 2)<|a 3)<|d 8)<|b (i (h 6)<|.slice (a 2) .bK .bK)<|b (i (P (a 6)<|a 4)<|l (a 6)<|a 3)<|b (i (P (a 6)<|a 3)<|d 0)<|b (n<|k 7 864<|c (a 0)<|c (a 1)<|c (a 6)<|c (.index (a 6)<|f x (f B (a 5)<|d 8)<|d 6)<|c (a 5) g) e⟩
def Mh:Fn:=⟨5,rU 9 [4,98,136,135],b (i (h 5)<|D g)<|b (A (h 6) (L 9<|c (R 10<|a 2) g)<|b (o (Q (l (a 2)<|a 6)<|m (f K (l (a 2)<|a 6)<|d 8) s<|a 3) (b (y (h 5) x<|.comp (N<|c (a 6)<|c (a 13) g) 13 (k 11 869<|c (a 0)<|c (a 1)<|c (a 2)<|c (a 6) g)<|F b9) e) e) e)<|b (A (h 8) (L 9<|c (R 10<|a 5) g)<|b (i (.tup [6,7])<|l (a 5)<|f G (f x (a 4)<|a 8)<|R 10<|a 5)<|b (o (k 12 876<|c (a 0)<|c (a 1)<|c (a 2)<|c (a 6)<|c (a 7) g) (b (n<|N<|c (a 6)<|c (a 7) g) e) e) e)<|b (n<|N g) e⟩
def LO:Fn:=⟨5,rU 5 [136,135],b (o (M (m (a 4) s<|N g)<|M (m (l (a 2)<|l (a 4)<|d 0) s<|d 0)<|m (f K (l (a 2)<|l (a 4)<|d 0)<|d 8) C<|a 3) (b (n<|F cj) e) e)<|b (n<|Q (m (l (a 4)<|d 1) .isin<|k 5 869<|c (a 0)<|c (a 1)<|c (a 2)<|c (l (a 4)<|d 0) g)<|k 6 876<|c (a 0)<|c (a 1)<|c (a 2)<|c (l (a 4)<|d 0)<|c (l (a 4)<|d 1) g) e⟩
def K3:Fn:=⟨4,rU 8 [4],b (i (h 4)<|d 0)<|b (A (h 5) (L 8<|c (d 4) g)<|b (i (h 6)<|f B (f B (f K (a 5)<|d 2)<|a 0)<|f t (a 1)<|d 1)<|b (i (h 7)<|f x (a 6)<|f B (f t (a 0)<|d 1)<|f t (d 1)<|f G (a 5)<|d 2)<|b (o (Q (f r (f I (a 3)<|a 5)<|d 1)<|Q (m (l (a 2)<|f x (a 6)<|d 3) s<|f x (f B (f K (a 5)<|d 2)<|d 8)<|d 6)<|m (l (a 2)<|a 7) s<|f x (f B (f K (a 5)<|d 2)<|d 8)<|d 4) (b (y (h 4) u<|f z (d 1)<|a 5) e) e) e)<|b (n<|a 4) e⟩
def L6:Fn:=⟨2,rU 3 [4,98],b (i (h 2)<|.comp (N<|c (f G (l (a 1)<|a 5)<|d 8)<|c (f G (f x (f G (a 5)<|a 0)<|f K (a 5)<|a 0)<|d 2) g) 5 (L 3<|c (R 4<|a 1) g)<|m (f G (l (a 1)<|a 5)<|d 8) .b7<|N<|c (d 0)<|c (d 6) g)<|b (o (M (m (a 2) s<|D<|c (N<|c (d 2)<|c (d 0) g) g)<|m (a 2) s<|D<|c (N<|c (d 2)<|c (d 1) g) g) (b (n<|F b9) e) e)<|b (n<|M (m (a 2) s<|.rep (c (N<|c (d 3)<|c (d 0) g) g)<|R 4<|a 2)<|m (a 2) s<|.rep (c (N<|c (d 3)<|c (d 1) g) g)<|R 4<|a 2) e⟩
def wr:Fn:=⟨7,rU 18 [98,134,141,4,140,101,108,110,139,107,138,137,117],b (i (.tup [7,8,9])<|l (a 3)<|f t (R 18<|a 3)<|d 1)<|b (i (h 10)<|k 19 864<|c (a 1)<|c (a 2)<|c (a 7)<|c (.index (a 7)<|f x (f B (a 8)<|d 8)<|d 6)<|c (a 8) g)<|b (i (h 11)<|m (k 20 881<|c (a 1)<|c (a 2)<|c (a 7)<|c (a 8)<|c (d 0) g) s<|N g)<|b (i (h 12)<|f t (R 18<|a 3)<|d 1)<|b (i (h 13)<|.comp (f t (a 12)<|a 31) 31 (L 21<|c (a 12) g)<|m (l (a 3)<|a 31) s<|l (a 3)<|a 12)<|b (i (h 14)<|d 0)<|b (o (m (R 18<|a 13) s<|d 1) (b (i (h 14)<|l (a 13)<|d 0) e) e)<|b (o (m (R 18<|a 13) .gt<|d 1) (b (i (h 14)<|.neg<|l (a 13)<|f t (R 18<|a 13)<|d 1) e) e)<|b (i (h 15)<|k 22 900<|c (a 1)<|c (a 7) g)<|b (i (h 16)<|Q (m (a 5) .ge<|d 100)<|M (a 10)<|.not<|a 11)<|b (i (h 17)<|d 0)<|b (o (Q (a 11)<|a 10) (b (i (h 17)<|d 2) e)<|b (o (a 11) (b (i (h 17)<|d 1) e)<|b (o (m (a 5) .ge<|d 100) (b (i (h 17)<|d 3) e)<|b (o (m (R 18<|a 13) .gt<|d 1) (b (i (h 17)<|d 4) e)<|b (o (a 15) (b (i (h 17)<|d 5) e) e) e) e) e) e)<|b (o (M (m (k 23 650<|c (a 0) g) C<|R 18<|a 13)<|m (k 24 657<|c (a 0)<|c (f G (a 6)<|d 5) g) C<|m (f x (R 18<|a 13)<|d 1) .ge<|f G (a 6)<|d 5) (b (n<|F cj) e) e)<|b (o (M (m (k 25 664<|c (a 0) g) C<|a 14)<|m (k 26 671<|c (a 0) g) C<|a 4) (b (n<|F cj) e) e)<|b (o (M (m (k 27 713<|c (a 0) g) C<|a 15)<|m (k 28 720<|c (a 0) g) C<|M (a 15)<|M (m (R 18<|a 13) .gt<|d 1)<|a 16) (b (n<|F cj) e) e)<|b (o (m (k 29 727<|c (a 0)<|c (f G (a 6)<|d 11) g) C<|M (a 16)<|Q (m (a 14) C<|d 0)<|m (a 14) Y<|f G (a 6)<|d 11) (b (n<|F cj) e) e)<|b (n<|m (k 30 734<|c (a 0) g) s<|a 17) e⟩
def BL:Fn:=⟨5,rU 13 [4,142,134],b (i (h 5)<|f B (a 0)<|a 1)<|b (i (h 6)<|.rep (c (d 0) g)<|a 5)<|b (o (m (a 0) s<|d 7) (b (i (P (a 6)<|d 3)<|d 6)<|b (i (P (a 6)<|d 17)<|d 14)<|b (A (h 7) (L 13<|c (d 4) g)<|b (o (f r (f I (a 3)<|a 7)<|d 1) (b (i (P (a 6)<|l (D<|c (d 6)<|c (d 0)<|c (d 20)<|c (d 14) g)<|a 7)<|l (D<|c (d 4)<|c (d 4)<|c (d 12)<|c (d 12) g)<|a 7) e) e) e) e)<|b (i (h 8)<|f G (l (a 4)<|d 2)<|a 5)<|b (i (P (a 6)<|a 8)<|d 6)<|b (A (h 9) (L 13<|c (a 5) g)<|b (i (h 10)<|f G (f x (f K (l (a 4)<|d 2)<|a 5)<|a 9)<|a 5)<|b (o (Q (m (d 14) .b7<|a 6)<|M (m (.abs 14<|f t (f G (a 10)<|d 3)<|f G (a 8)<|d 3) .gt<|d 1)<|m (.abs 14<|f t (f K (a 10)<|d 3)<|f K (a 8)<|d 3) .gt<|d 1) (b (i (P (a 6)<|a 10)<|d 14) e) e) e) e)<|b (A (h 11) (.slice (a 4) (d 3)<|d 7)<|b (i (h 12)<|l (D<|c (d 0)<|c (d 5)<|c (d 4)<|c (d 2)<|c (d 3)<|c (d 1)<|c (d 4)<|c (d 3) g)<|f G (a 11)<|d 8)<|b (i (h 10)<|f G (f K (a 11)<|d 16)<|a 5)<|b (o (Q (a 12)<|Q (m (l (a 6)<|a 10) s<|d 0)<|M (m (a 12) C<|d 1)<|.bU (d 0) Y (f K (a 10)<|a 0) Y<|f t (a 1)<|d 1) (b (i (P (a 6)<|a 10)<|f x (f B (f G (f K (a 11)<|d 8)<|d 2)<|d 8)<|a 12)<|b (o (.not<|k 15 864<|c (a 0)<|c (a 1)<|c (a 6)<|c (.index (a 6)<|f t (d 14)<|f B (d 8)<|a 2)<|c (f t (d 1)<|a 2) g) (b (i (P (a 6)<|a 10)<|d 0) e) e) e) e) e)<|b (n<|a 6) e⟩
def qy:Fn:=⟨6,rU 13 [4,145,143,144,123],b (i (h 6)<|f B (a 0)<|a 1)<|b (i (h 7)<|f B (d 15)<|a 6)<|b (i (h 8)<|D g)<|b (A (h 9) (L 13<|c (d 15) g)<|b (v<|W (a 8)<|.comp (f z (d 1)<|f x (f B (a 9)<|a 6)<|a 18) 18 (L 13<|c (a 6) g)<|F b9) e)<|b (i (h 11)<|k 14 828<|c (a 8)<|c (.rep (c (d 0) g)<|a 0)<|c (.comp (f z (d 1)<|f x (a 7)<|a 18) 18 (L 13<|c (d 16) g)<|F b9)<|c (f z (d 1)<|f x (a 7)<|d 16) g)<|b (i (h 12)<|k 15 296<|c (k 16 237<|c (a 0)<|c (a 1)<|c (F cj)<|c (m (a 0) s<|d 7) g)<|c (a 11) g)<|b (A (h 10) (L 13<|c (a 6) g)<|b (o (l (a 2)<|a 10) (b (v<|k 17 307<|c (a 12)<|c (l (a 2)<|a 10)<|c (a 10) g) e) e) e)<|b (i (w (a 12) 19)<|a 3)<|b (i (w (a 12) 20)<|a 4)<|b (i (w (a 12) 22)<|a 5)<|b (y (w (a 12) 23) X<|f z (d 1)<|f x (a 7)<|a 4)<|b (o (m (a 3) s<|d 1) (b (y (w (a 12) 23) X<|f z (d 1)<|f x (a 7)<|d 16) e) e)<|b (n<|a 12) e⟩
def GP:Fn:=⟨1,rU 23 [4,154,153,146,98,152,141,151,150,117,148,149,147],b (i (h 1)<|.comp (.ite (m (a 36) Y<|R 27<|a 0) (l (a 0)<|a 36)<|d 0) 36 (L 23<|c (d 7) g)<|F b9)<|b (i (.tup [2,3])<|l (D<|c (N<|c (d 3)<|c (d 4) g)<|c (N<|c (d 7)<|c (d 3) g) g)<|f G (l (a 1)<|d 0)<|d 2)<|b (i (h 4)<|f G (f K (l (a 1)<|d 0)<|d 2)<|d 2)<|b (i (h 5)<|d 0)<|b (o (m (a 2) s<|d 7) (b (i (h 5)<|f G (f K (l (a 1)<|d 0)<|d 4)<|d 16) e) e)<|b (i (h 6)<|f G (l (a 1)<|d 1)<|d 104)<|b (i (h 7)<|k 24 912<|c (a 2)<|c (a 3)<|c (a 4)<|c (a 5)<|c (a 1) g)<|b (i (h 8)<|k 25 917<|c (a 2)<|c (a 3)<|c (a 7)<|c (a 4)<|c (a 5)<|c (a 6) g)<|b (i (h 9)<|D<|c (N<|c (a 7)<|c (a 4)<|c (a 5) g) g)<|b (i (h 10)<|d 0)<|b (i (h 11)<|F cj)<|b (i (h 12)<|D<|c (N g)<|c (N g) g)<|b (o (.not<|k 26 905<|c (a 8)<|c (a 2)<|c (a 3)<|c (a 9)<|c (F cj)<|c (a 6)<|c (l (a 1)<|d 2) g) (b (n<|F cj) e) e)<|b (A (h 13) (.slice (a 0) (d 7)<|d 15)<|b (i (.tup [7,4,5])<|l (a 9)<|f t (R 27<|a 9)<|d 1)<|b (i (h 14)<|l (a 12)<|a 4)<|b (o (M (m (f G (a 13)<|d 3) C<|d 0)<|.not<|k 28 888<|c (a 2)<|c (a 3)<|c (a 7)<|c (a 4)<|c (a 14) g) (b (i (h 14)<|k 29 881<|c (a 2)<|c (a 3)<|c (a 7)<|c (a 4)<|c (f K (a 13)<|d 3) g) e) e)<|b (o (m (a 14) s<|N g) (b .brk e) e)<|b (i (.tup [15,16])<|a 14)<|b (i (h 17)<|f u (a 16)<|f z (a 15)<|d 6)<|b (y (h 6) x<|d 1)<|b (o (M (l (a 7)<|a 16)<|m (f G (l (a 7)<|a 15)<|d 8) s<|d 1) (b (i (h 6)<|d 0) e) e)<|b (i (h 18)<|.slice (a 7) .bK .bK)<|b (i (P (a 18)<|a 16)<|l (a 7)<|a 15)<|b (i (P (a 18)<|a 15)<|d 0)<|b (o (Q (m (f G (l (a 7)<|a 15)<|d 8) s<|d 1)<|m (f K (a 16)<|a 2) .isin<|N<|c (d 0)<|c (f t (a 3)<|d 1) g) (b (i (P (a 18)<|a 16)<|f x (f x (f B (a 4)<|d 8)<|d 2)<|f G (f K (a 13)<|d 3)<|d 4)<|b (y (h 17) u<|f u (f z (d 1)<|d 14)<|f z (f G (f K (a 13)<|d 3)<|d 4)<|d 12) e) e)<|b (v<|k 30 804<|c (a 8)<|c (a 17) g)<|b (o (m (a 6) s<|d 0) (b (i (h 10)<|R 27<|a 9)<|b (i (h 11)<|F cj) e) e)<|b (i (h 19)<|N<|c (a 18)<|c (f t (d 1)<|a 4)<|c (k 31 895<|c (a 2)<|c (a 3)<|c (a 18)<|c (a 5) g) g)<|b (i (h 11)<|M (a 11)<|m (a 19) .isin<|.slice (a 9) (a 10) .bK)<|b (v<|W (a 9)<|a 19)<|b (i (P (a 12)<|a 4)<|N<|c (a 16)<|c (a 15) g)<|b (o (.not<|k 26 905<|c (a 8)<|c (a 2)<|c (a 3)<|c (a 9)<|c (a 11)<|c (a 6)<|c (a 13) g) (b (n<|F cj) e) e) e)<|b (i (h 20)<|k 32 734<|c (a 8) g)<|b (i (h 21)<|f x (D<|c (.str (bb "*"))<|c (l (D<|c (.str (bb "0-1"))<|c (.str (bb "1-0")) g)<|l (l (a 9)<|f t (R 27<|a 9)<|d 1)<|d 1) g)<|.rep (c (.str (bb "1/2-1/2")) g)<|d 4)<|b (o (M (m (k 33 741<|c (a 8) g) C<|l (a 21)<|a 20)<|m (k 34 685<|c (a 8) g) C<|m (a 20) s<|d 2) (b (n<|F cj) e) e)<|b (A (h 22) (L 23<|c (f t (R 27<|a 9)<|d 1) g)<|b (v<|k 35 811<|c (a 8) g) e)<|b (n<|k 26 905<|c (a 8)<|c (a 2)<|c (a 3)<|c (.slice (a 9) .bK<|d 1)<|c (F cj)<|c (f G (l (a 1)<|d 1)<|d 104)<|c (l (a 1)<|d 2) g) e⟩
end
end
end Mine.Lake
section
local macro_rules (kind := Lean.Parser.Term.tuple) | s => Mine.Lake.mK s
namespace MineH.Lake
noncomputable section
def KF(P:nG):Frag:=fD [(3,zd (H9 P) 165)] <|
 kB m0 (em 15) "make_piece" 217 16 2 15 2 <|
 kB m0 (em 16) "side_of" 225 18 1 22 1 <|
 kB m0 (em 17) "kind_of" 232 20 1 29 1 <|
 kB m0 (em 18) "pack_move" 239 22 4 36 5 <|
 kB m0 (em 19) "move_from" 250 27 1 43 1 <|
 kB m0 (em 20) "move_to" 257 29 1 50 1 <|
 kB m0 (em 21) "move_special" 264 31 1 57 1 <|
 kB m0 (em 22) "move_promo" 271 33 1 64 1 <|
 kB m1 (em 24) "more_than_one" 280 38 1 71 1 <|
 kB m1 (em 25) "highest" 287 40 1 78 3 <|
 kB m1 (em 26) "lowest" 296 53 1 85 1 <|
 kB m1 (em 27) "squares_of" 303 55 1 92 3 <|
 kB m2 (em 29) "direction" 314 68 3 99 4 <|
 kB m2 (em 30) "between" 324 73 3 106 4 <|
 kB m2 (em 31) "line" 334 78 3 113 4 <|
 kB m2 (em 32) "aligned" 344 83 4 120 4 <|
 fD [(159,qV [I 0 403,I 1 404,I 0 405,I (-1) 407,I 1 408,I 1 409,I (-1) 411,I (-1) 413]),
 (160,qV [I 1 415,I 0 416,I (-1) 418,I 0 419,I 1 420,I (-1) 422,I (-1) 424,I 1 425]),
 (173,Ay "__init__" "Geometry.__init__" 439 98 5 (I 3 0) (.ref 168) (.bool b9) (I 181 0) (.ref 169) (.ref 170) (.ref 171) (.ref 172) 447),
 (174,CZ (Ko (em 39) 0) "Geometry.__init__" (S "chess.geometry" 401) (.ref 173)),
 (176,zd [E P "__module__" 434 (S "chess.geometry" 401),E P "__firstlineno__" 438 (I 96 437),E P "__init__" 449 (.ref 174),E P "__static_attributes__" 464 (.ref 175),E P "__dict__" 466 (.ref 178),E P "__weakref__" 468 (.ref 179),E P "__doc__" 469 .none] 4),
 (177,U8 (.type "type") U "Geometry" [.type "object"] [.ref 177,.type "object"] 176 "Geometry" b9 0 [] cj cj U [U,U,J (S "Geometry" 427),J (S "Geometry" 435),J (.builtin "object.__new__"),J (.bool b9)])] <|
 kB m3 (em 40) "is_growing" 472 113 1 182 1 <|
 kB m3 (em 41) "add_masks" 479 115 1 189 5 <|
 kB m3 (em 42) "inner_squares" 490 123 2 196 3 <|
 kB m3 (em 43) "add_rays" 499 134 1 203 8 <|
 kB m3 (em 44) "add_pawns" 513 149 1 210 2 <|
 kB m3 (em 45) "add_knights" 521 153 1 217 11 <|
 kB m3 (em 46) "add_castles" 538 165 1 224 7 <|
 kB m3 (em 47) "make_geometry" 551 182 4 231 5 <|
 kB m4 (em 49) "ray_attacks" 564 193 4 238 7 <|
 kB m4 (em 50) "rook_attacks" 577 208 3 245 5 <|
 kB m4 (em 51) "bishop_attacks" 588 213 3 252 5 <|
 kB m4 (em 52) "queen_attacks" 599 218 3 259 3 <|
 kB m4 (em 53) "slider_attacks" 608 220 4 266 4 <|
 kB m4 (em 54) "piece_attacks" 618 228 5 273 5 <|
 fD [(292,Ay "__init__" "Position.__init__" 643 239 3 (I 3 0) (.ref 287) (.bool b9) (I 181 0) (.ref 288) (.ref 289) (.ref 290) (.ref 291) 649),
 (293,CZ (Ko (em 56) 0) "Position.__init__" (S "chess.position" 629) (.ref 292)),
 (295,zd [E P "__module__" 638 (S "chess.position" 629),E P "__firstlineno__" 642 (I 237 641),E P "__init__" 651 (.ref 293),E P "__static_attributes__" 664 (.ref 294),E P "__dict__" 666 (.ref 297),E P "__weakref__" 668 (.ref 298),E P "__doc__" 669 .none] 4),
 (296,U8 (.type "type") U "Position" [.type "object"] [.ref 296,.type "object"] 295 "Position" b9 0 [] cj cj U [U,U,J (S "Position" 631),J (S "Position" 639),J (.builtin "object.__new__"),J (.bool b9)])] <|
 kB m5 (em 57) "put_piece" 672 252 3 301 4 <|
 kB m5 (em 58) "take_piece" 682 258 2 308 4 <|
 kB m5 (em 59) "shift_piece" 692 266 3 315 6 <|
 kB m5 (em 60) "occupied" 704 275 1 322 1 <|
 kB m5 (em 61) "pieces" 711 277 3 329 3 <|
 kB m5 (em 62) "king_square" 720 279 2 336 2 <|
 kB m6 (em 64) "straight_sliders" 730 282 1 343 1 <|
 kB m6 (em 65) "slanting_sliders" 737 284 1 350 1 <|
 kB m6 (em 66) "pawn_attackers" 744 286 3 357 3 <|
 kB m6 (em 67) "step_attackers" 753 288 3 364 5 <|
 kB m6 (em 68) "line_attackers" 764 293 3 371 6 <|
 kB m6 (em 69) "attackers_to" 776 302 3 378 4 <|
 kB m6 (em 70) "is_attacked" 786 305 4 385 8 <|
 kB m6 (em 71) "checkers_of" 800 315 2 392 3 <|
 kB m6 (em 72) "checkers" 809 318 1 399 1 <|
 kB m6 (em 73) "in_check_of" 816 320 2 406 3 <|
 kB m6 (em 74) "in_check" 825 323 1 413 1 <|
 kB m6 (em 75) "snipers_of" 832 325 2 420 4 <|
 kB m6 (em 76) "blockers" 842 330 2 427 9 <|
 kB m6 (em 77) "pinned_pieces" 857 343 2 434 2 <|
 kB m7 (em 86) "squares_within" 881 353 2 441 2 <|
 kB m7 (em 87) "castle_refusal" 889 357 2 448 9 <|
 kB m7 (em 88) "add_castling" 904 375 2 455 7 <|
 kB m8 (em 93) "add_goals" 925 384 3 462 4 <|
 kB m8 (em 94) "add_piece_moves" 935 387 4 469 7 <|
 kB m8 (em 95) "stage_target" 948 392 2 476 2 <|
 kB m9 (em 97) "push_step" 958 399 2 483 2 <|
 kB m9 (em 98) "start_mask" 966 403 2 490 2 <|
 kB m9 (em 99) "last_mask" 974 407 2 497 2 <|
 kB m9 (em 100) "shift_push" 982 411 3 504 3 <|
 kB m9 (em 101) "shift_capture" 991 415 4 511 4 <|
 kB m9 (em 102) "push_targets" 1001 419 2 518 8 <|
 kB m9 (em 103) "add_promotions" 1015 429 5 525 7 <|
 kB m9 (em 104) "add_plain_pushes" 1028 441 3 532 8 <|
 kB m9 (em 105) "add_push_promotions" 1042 449 4 539 8 <|
 kB m9 (em 106) "add_pawn_captures" 1056 455 4 546 12 <|
 kB m9 (em 107) "add_pawn_moves" 1074 468 4 553 4 <|
 kB m9 (em 108) "add_en_passant" 1084 474 2 560 4 <|
 kB Pz (em 110) "evasion_targets" 1096 481 2 567 2 <|
 kB Pz (em 111) "passed_pawn_square" 1104 485 1 574 1 <|
 kB Pz (em 112) "may_answer_en_passant" 1111 489 2 581 2 <|
 kB Pz (em 113) "add_evasions" 1119 493 2 588 4 <|
 kB VJ (em 115) "taken_square" 1131 503 2 595 3 <|
 kB VJ (em 117) "is_safe_en_passant" 1141 511 2 602 7 <|
 kB VJ (em 118) "is_legal" 1154 518 3 609 8 <|
 kB XM (em 120) "generate" 1170 534 2 616 5 <|
 kB XM (em 121) "has_legal_move" 1181 548 1 623 5 <|
 kB ua (em 130) "reversible_plies" 1208 564 1 630 1 <|
 kB ua (em 131) "key_before" 1215 568 2 637 2 <|
 kB ua (em 132) "repetitions" 1223 572 1 644 3 <|
 kB ua (em 133) "is_repetition" 1232 578 2 651 2 <|
 kB ua (em 134) "repetition_distance" 1240 580 1 658 3 <|
 kB ua (em 135) "has_repeated" 1249 588 1 665 4 <|
 kB ua (em 136) "is_checkmate" 1259 595 1 672 1 <|
 kB ua (em 137) "is_stalemate" 1266 597 1 679 1 <|
 kB ua (em 138) "is_fifty" 1273 599 1 686 1 <|
 kB ua (em 139) "square_colour" 1280 601 2 693 2 <|
 kB ua (em 140) "bishops_on_one_colour" 1288 603 1 700 3 <|
 kB ua (em 141) "is_insufficient" 1297 608 1 707 2 <|
 kB ua (em 142) "is_draw_by_rule" 1305 615 1 714 1 <|
 kB ua (em 143) "is_draw_in_search" 1312 617 2 721 3 <|
 kB ua (em 144) "outcome" 1321 622 1 728 1 <|
 kB ua (em 145) "result_text" 1328 634 1 735 2 <|
 kB zc (em 147) "moved_piece" 1338 644 2 742 4 <|
 kB zc (em 148) "taken_square" 1348 652 2 749 3 <|
 kB zc (em 150) "rook_step" 1358 660 3 756 5 <|
 kB zc (em 151) "passed_square" 1369 666 4 763 7 <|
 kB zc (em 152) "kept_rights" 1382 675 3 770 4 <|
 kB zc (em 153) "clear_ep_key" 1392 678 1 777 1 <|
 kB zc (em 154) "set_ep_key" 1399 682 2 784 2 <|
 kB zc (em 155) "set_rights_key" 1407 686 2 791 2 <|
 kB zc (em 156) "do_move" 1415 690 2 798 10 <|
 kB zc (em 157) "undo_move" 1431 722 1 805 12 <|
 fD [(824,Ay "__init__" "Zobrist.__init__" 1463 750 5 (I 3 0) (.ref 819) (.bool b9) (I 181 0) (.ref 820) (.ref 821) (.ref 822) (.ref 823) 1471),
 (825,CZ (Ko (em 159) 0) "Zobrist.__init__" (S "chess.zobrist" 1449) (.ref 824)),
 (827,zd [E P "__module__" 1458 (S "chess.zobrist" 1449),E P "__firstlineno__" 1462 (I 748 1461),E P "__init__" 1473 (.ref 825),E P "__static_attributes__" 1478 (.ref 826),E P "__dict__" 1480 (.ref 829),E P "__weakref__" 1482 (.ref 830),E P "__doc__" 1483 .none] 4),
 (828,U8 (.type "type") U "Zobrist" [.type "object"] [.ref 828,.type "object"] 827 "Zobrist" b9 0 [] cj cj U [U,U,J (S "Zobrist" 1451),J (S "Zobrist" 1459),J (.builtin "object.__new__"),J (.bool b9)]),
 (833,qV [I 0 1488,I 1 1489]),
 (834,qV [I 1 1490,I 0 1491]),
 (835,qV [I 0 1492,I (-1) 1494]),
 (836,qV [I (-1) 1496,I 0 1497]),
 (837,qV [I 1 1498,I 1 1499]),
 (838,qV [I 1 1500,I (-1) 1502]),
 (839,qV [I (-1) 1504,I (-1) 1506]),
 (840,qV [I (-1) 1508,I 1 1509]),
 (841,lsO [.ref 833,.ref 834,.ref 835,.ref 836,.ref 837,.ref 838,.ref 839,.ref 840] 0),
 (842,qV [I 1 1511,I 2 1512]),
 (843,qV [I 2 1513,I 1 1514]),
 (844,qV [I 2 1515,I (-1) 1517]),
 (845,qV [I 1 1518,I (-2) 1520]),
 (846,qV [I (-1) 1522,I (-2) 1524]),
 (847,qV [I (-2) 1526,I (-1) 1528]),
 (848,qV [I (-2) 1530,I 1 1531]),
 (849,qV [I (-1) 1533,I 2 1534]),
 (850,lsO [.ref 842,.ref 843,.ref 844,.ref 845,.ref 846,.ref 847,.ref 848,.ref 849] 0)] <|
 kB M2 (em 163) "_law_hits" 1536 758 4 851 11 <|
 kB M2 (em 164) "_law_safe" 1553 781 5 858 6 <|
 fD [(868,Ay "_law_goals" "_law_goals" 1565 786 4 (I 3 0) (.ref 865) (.bool b9) (I 181 0) (.ref 866) .none .none (.ref 867) 1568),
 (869,CZ (em 165) "_law_goals" (S "law_nt0468_01" 1486) (.ref 868))] <|
 kB M2 (em 166) "_law_fits" 1571 796 5 870 7 <|
 fD [(880,Ay "_law_pick" "_law_pick" 1584 802 5 (I 3 0) (.ref 877) (.bool b9) (I 181 0) (.ref 878) .none .none (.ref 879) 1587),
 (881,CZ (em 167) "_law_pick" (S "law_nt0468_01" 1486) (.ref 880))] <|
 kB M2 (em 168) "_law_back" 1590 812 5 882 5 <|
 kB M2 (em 169) "_law_kept" 1601 816 4 889 8 <|
 fD [(899,Ay "_law_bare" "_law_bare" 1615 824 2 (I 3 0) (.ref 896) (.bool b9) (I 181 0) (.ref 897) .none .none (.ref 898) 1618),
 (900,CZ (em 170) "_law_bare" (S "law_nt0468_01" 1486) (.ref 899)),
 (904,Ay "_law_agrees" "_law_agrees" 1621 829 7 (I 3 0) (.ref 901) (.bool b9) (I 181 0) (.ref 902) .none .none (.ref 903) 1624),
 (905,CZ (em 171) "_law_agrees" (S "law_nt0468_01" 1486) (.ref 904))] <|
 kB M2 (em 172) "_law_cells" 1627 862 5 906 13 <|
 [(916,Ay "_law_position" "_law_position" 1646 886 6 (I 3 0) (.ref 913) (.bool b9) (I 181 0) (.ref 914) .none .none (.ref 915) 1649),
 (917,CZ (em 173) "_law_position" (S "law_nt0468_01" 1486) (.ref 916)),
 (921,Ay "law" "law" 1652 904 1 (I 3 0) (.ref 918) (.bool b9) (I 181 0) (.ref 919) .none .none (.ref 920) 1655),
 (922,CZ (em 174) "law" (S "law_nt0468_01" 1486) (.ref 921))]
theorem Lz(P:nG):(KF P).map (λp=>(Yy P).get p.1)=(KF P).map (λp=>J p.2):=()
theorem Ey(P:nG):(KF P).map (λp=>alive p.2)=(KF P).map (λp=>J p.2):=()
theorem Rw(P:nG):(KF P).all (λp=>cu (p.1<923))=b9:=()
end
end MineH.Lake
namespace Mine.Lake
noncomputable section
section
open MineH.Lake (KF Yy em Ko U2 CZ Ay Bs Lz Ey Rw H9)
theorem LW{K:Frag}(h:K.lookup a=J o):(a,o)∈K:=by
 induction K with
 | nil=>cases h
 | cons p r ih=>
  obtain⟨b,ob⟩:=p;rw[d9] at h;cases q:a == b with
  | true=>rw[q] at h;cases h;rw[show a=b by simpa using q];exact .head _
  | false=>rw[q] at h;exact .tail _ (ih h)
theorem qm:∀{l:List α},l.map f=l.map g->∀x∈l,f x=g x
 | [],_,x,hx=>by cases hx
 | a::r,h,x,hx=>by
  rw[dA,dA] at h;injection h with h1 h2;cases hx with
  | head=>exact h1
  | tail _ hx=>exact qm h2 x hx
theorem Z4{K:Frag}{af:BT}(h1:K.map (λp=>af.get p.1)=K.map (λp=>J p.2))(h2:K.map (λp=>alive p.2)=K.map (λp=>J p.2))(h3:K.all (λp=>cu (p.1<923))=b9)
  (Y:∀a o,a<923->af.get a=J o->alive o=J o->h.get? a=J o):K.In h:=λa o e=>by
 have hm:=LW e;refine Y a o ?_ (qm h1 _ hm) (qm h2 _ hm);have:=cN.mp h3 _ hm;simpa using this
theorem Vg{w:dw}{h:Heap}(Y:U2 w h):(KF w.params).In h:=Z4 (Lz w.params) (Ey w.params) (Rw w.params) Y
theorem UW(P:nG):[177,296,828].map (λC=>(cn 26).map λn=>(plainGet (KF P) C (pK n),findIn (KF P) (.ref C) (pK n)))=[177,296,828].map λw=>(cn 26).map λw=>(b9,J U):=()
theorem Nm(P:nG):[177,296,828].map (λC=>(hasDictIn (KF P) C,findIn (KF P) (.ref C) "__setattr__",plainOver (KF P) C,makesIn (KF P) C))=[177,296,828].map λw=>(b9,J (J (.builtin "object.__setattr__")),b9,b9):=()
theorem Ud:((cn 26).all λn=>(cn 26).all λm=> !oX (pK n) (pK m)||n == m)=b9:=()
theorem ES(c:Nat):uh c∈[177,296,828]:=match c with
 | 0=>.head _
 | 1=>.tail _ (.head _)
 | _+2=>.tail _ (.tail _ (.head _))
theorem WM(P:nG):XF (KF P):=
 ⟨λc n hn=>have e:=qm (qm (UW P) _ (ES c)) n (cO.mpr hn);⟨cI kM e,cI Prod.snd e⟩,
 λc=>have e:=qm (Nm P) _ (ES c);⟨cI (·.1) e,cI (·.2.1) e,cI (·.2.2.1) e⟩,
 λn m hn hm h=>by
  have z:=cN.mp (cN.mp Ud n (cO.mpr hn)) m (cO.mpr hm);rw[vS,h] at z;exact cK z⟩
theorem R5(P:nG)(c:Nat):makesIn (KF P) (uh c)=b9:=cI (·.2.2.2) (qm (Nm P) _ (ES c))
def IJ:Nat->Addr
 | 0=>174 | 1=>293 | _=>825
theorem Sh(P:nG):(findIn (KF P) (.ref 177) "__init__",findIn (KF P) (.ref 296) "__init__",findIn (KF P) (.ref 828) "__init__",typeIn (KF P) (.ref 174),typeIn (KF P) (.ref 293),typeIn (KF P) (.ref 825))=
  (J (J (.ref 174)),J (J (.ref 293)),J (J (.ref 825)),J (.type "function"),J (.type "function"),J (.type "function")):=()
theorem SO(P:nG):ftL.all (λf=>keepIn (KF P) (.ref f))=b9:=()
def Yt:nr->V
 | .int i _=>.int i
 | .ref b=>.con b
 | _=>.none
def S5:V->Bool
 | .int _=>b9
 | .con _=>b9
 | _=>cj
theorem QO(e:Yt v=x)(h:S5 x=b9):VR [] x v:=by subst e;cases v<;>first | exact rfl | exact(dd h).elim
theorem M7:∀{vs:List nr},(vs.map Yt).all S5=b9->qX [] (vs.map Yt) vs
 | [],_=>.nil
 | _::_,h=>.cons (QO rfl (bl h)) (M7 (br h))
def gvS(x:Str):GV->Bool
 | .val v=>S5 v
 | .len=>oX x (bb "len")
 | .abs=>oX x (bb "abs")
 | .range=>oX x (bb "range")
def gvE:GV->Option (Option V)
 | .val v=>J (J v)
 | _=>J U
def gvC(K:Frag)(x:Str):Option (Option V):=(nsIn K mainGlobals x).map (Option.map Yt)
theorem Yi(P:nG):GT.map (λp=>(gvC (KF P) p.1,gvS p.1 p.2,dbg p.1))=GT.map λp=>(gvE p.2,b9,cj):=()
theorem yz:(bootBuiltins (bb "len"),bootBuiltins (bb "abs"),bootBuiltins (bb "range"))=(J (.builtin "len"),J (.builtin "abs"),J (.type "range")):=()
section
variable{K:Frag}{B:Heap}{mg mb:Str->Option nr}{x:Str}
theorem KR(X:K.In B)(hg:B.Ns mainGlobals mg)(hb:∀x:Str,x≠"__name__"->mb x=bootBuiltins x)(e:gvC K x=J U)(h:oX x (bb n)=b9)(ne:bb n≠"__name__")(b:bootBuiltins (bb n)=J v):mg x=U/\mb x=J v:=
 ⟨mg_none_of X hg ((dj.mp e).elim λo r=>r.1.trans (cI J (Option.map_eq_none_iff.mp r.2))),(cI mb (o4 h)).trans ((hb _ ne).trans b)⟩
theorem Zm(X:K.In B)(hg:B.Ns mainGlobals mg)(hb:∀x:Str,x≠"__name__"->mb x=bootBuiltins x):∀{g:GV},gvC K x=gvE g->gvS x g=b9->TL mg mb x g
 | .val _,e,h=>(dj.mp e).elim λz r=>(dj.mp r.2).elim λw f=>⟨w,mg_of X hg (r.1.trans (cI J f.1)),QO f.2 h⟩
 | .len,e,h=>KR X hg hb e h (by decide +kernel) (cI (·.1) yz)
 | .abs,e,h=>KR X hg hb e h (by decide +kernel) (cI (·.2.1) yz)
 | .range,e,h=>KR X hg hb e h (by decide +kernel) (cI (·.2.2) yz)
end
def Mk:List (Nat × Bool × List V):=[(159,cj,[.int 0,.int 1,.int 0,.int (-1),.int 1,.int 1,.int (-1),.int (-1)]),
 (160,cj,[.int 1,.int 0,.int (-1),.int 0,.int 1,.int (-1),.int (-1),.int 1]),
 (833,cj,[.int 0,.int 1]),
 (834,cj,[.int 1,.int 0]),
 (835,cj,[.int 0,.int (-1)]),
 (836,cj,[.int (-1),.int 0]),
 (837,cj,[.int 1,.int 1]),
 (838,cj,[.int 1,.int (-1)]),
 (839,cj,[.int (-1),.int (-1)]),
 (840,cj,[.int (-1),.int 1]),
 (841,b9,[.con 833,.con 834,.con 835,.con 836,.con 837,.con 838,.con 839,.con 840]),
 (842,cj,[.int 1,.int 2]),
 (843,cj,[.int 2,.int 1]),
 (844,cj,[.int 2,.int (-1)]),
 (845,cj,[.int 1,.int (-2)]),
 (846,cj,[.int (-1),.int (-2)]),
 (847,cj,[.int (-2),.int (-1)]),
 (848,cj,[.int (-2),.int 1]),
 (849,cj,[.int (-1),.int 2]),
 (850,b9,[.con 842,.con 843,.con 844,.con 845,.con 846,.con 847,.con 848,.con 849])]
def yD(a:Nat):Option (Bool × List V):=Mk.lookup a
theorem HL(h:yD a=J p):(a,p)∈Mk:=by
 ext a p;obtain⟨l,r,e,_⟩:=List.lookup_eq_some_iff.mp h;exact e▸List.mem_append_right l (.head _)
def Xs:Bool × List V->O
 | (b9,xs)=>.list xs
 | (cj,xs)=>.tup xs
def z7(sa:Nat)(ns:List Int)(a:Nat):Option O:=if a=sa then J (.list (ns.map .int)) else(yD a).map Xs
def Wq:nr->Option String
 | .type n=>J n
 | _=>U
theorem Vl(h:Wq v=J n):v= .type n:=by cases v<;>first | exact cI _ (cL h) | exact oJ h
def X9:Data->Option (Array nr)
 | .seq vs _=>J vs
 | _=>U
theorem U7(h:X9 d=J vs):∃k,d= .seq vs k:=by
 ext d vs;cases d<;>first | exact⟨_,cI (Data.seq · _) (cL h)⟩ | exact oJ h
def abj(K:Frag)(a:Nat):Option (String × List V):=(K.lookup a).bind λo=>(Wq o.cls).bind λn=>(X9 o.data).map λvs=>(n,vs.toList.map Yt)
theorem TN(P:nG):Mk.map (λq=>(abj (KF P) q.1,q.2.2.all S5))=Mk.map λq=>(J (if q.2.1 then "list" else "tuple",q.2.2),b9):=()
theorem Tw(X:(KF P).In B):∀{p:Bool × List V},yD a=J p->CR B a (Xs p):=λ{p} h=>
 have e:=qm (TN P) _ (HL h)
 bd (cI (·.1) e) λo e1 q=>bd q λn e2 q=>(dj.mp q).elim λvs r=>(U7 r.1).elim λk e3=>
  have i:p.2.all S5=b9:=cI (·.2) e
  have f:vs.toList.map Yt=p.2:=cI (·.2) r.2
  have m:qX [] p.2 vs.toList:=f▸M7 (f.symm▸i)
  have c:o.cls= .type (if p.1 then "list" else "tuple"):=(Vl e2).trans (cI (λq:String × List V=>Value.type q.1) r.2)
  match p,c,m with
  | (b9,_),c,m=>⟨vs.toList,⟨o,X _ _ e1,c,k,e3⟩,m⟩
  | (cj,_),c,m=>⟨vs.toList,⟨o,X _ _ e1,c,k,e3⟩,m⟩
abbrev Tp(aR:nN)(w:dw)(con:Nat->Option O)(B:Heap)(mg mb:Str->Option nr):Prop:=NS aR w con (KF w.params) B mg mb GT ftL
theorem Wu{aR:nN}(Y:U2 w B)(hg:B.Ns mainGlobals mg)(hb:B.Ns builtinsNs mb)(hbb:∀x:Str,x≠"__name__"->mb x=bootBuiltins x)(nl:B.NoLimit)(hs:CR B sa (.list (ns.map .int))):
  Tp aR w (z7 sa ns) B mg mb:=
 have X:=Vg Y
 ⟨λa o h=>by
  unfold z7 at h;by_cases q:a=sa
  .rw[cG q] at h;cases h;exact q▸hs
  .rw[cH q] at h;exact(dj.mp h).elim λp e=>e.2▸Tw X e.1,X,WM _,hg,hb,nl,λp hp=>have z:=jB (qm (Yi w.params) p hp);have y:=jB z.2;⟨Zm X hg hbb z.1 y.1,(vS _ _).symm.trans y.2⟩,λf hf=>cN.mp (SO w.params) f hf⟩
abbrev FT:=Option Obj × nr × Bool × FuncBody × Bool × Nat × Nat × Addr × List (Str × Addr)
def fL(P:nG)(f:Fn)(st:Stmt)(q:String)(a:Nat):FT:=
 ((KF P).lookup a,(Bs st q).defaults,codeIn (KF P) (.ref (a - 1)) (Bs st q).qualname,(Bs st q).body,SQ GT ftL f (Bs st q).params (Bs st q).scope (YU st),f.na,(Bs st q).scope.names.length,(Bs st q).builtins,(Bs st q).closure)
def fR(st:Stmt)(q:String)(m:nr)(a k n:Nat):FT:=(J (CZ st q m (.ref (a - 1))),.none,b9,.stmts (YU st),b9,k,n,builtinsNs,[])
theorem nCx:Nonempty ((((((nN × dw) × Heap) × (Str->Option nr)) × (Str->Option nr)) × Nat) × List Int):=by repeat' first | apply Mine.Lake.nP | infer_instance | exact⟨by repeat' first | exact default | intro _ | constructor⟩
def cx:=tp7 (λaR w B mg mb sa ns=>ns.length<=63->yD sa=U->Tp aR w (z7 sa ns) B mg mb->(KO aR w B (z7 sa ns) 24).call 922 [.con sa] [] (λv z=>v= .bool b9)) nCx
def w0:dw:=cx.1.1.1.1.1.2
def KL:Nat:=if yD cx.1.2=U then cx.1.2 else 1000
def PB:List Int:=if cx.2.length<=63 then cx.2 else[]
def Ca:Nat->Option O:=z7 KL PB
def T0:Prop:=Tp cx.1.1.1.1.1.1 w0 Ca cx.1.1.1.1.2 cx.1.1.1.2 cx.1.1.2
def K0(d:Nat):pN:=@ite _ T0 (eW _) (KO cx.1.1.1.1.1.1 w0 cx.1.1.1.1.2 Ca d) ⟨Ca,λw w w w=>True⟩
theorem Dy(t:T0)(d:Nat):K0 d=KO cx.1.1.1.1.1.1 w0 cx.1.1.1.1.2 Ca d:=cG t
theorem H8(t:¬T0)(d:Nat):K0 d=⟨Ca,λw w w w=>True⟩:=cH t
theorem QZ:yD KL=U:=by
 unfold KL;split
 .assumption
 .decide +kernel
theorem NH:PB.length<=63:=by
 unfold PB;split
 .assumption
 .exact dH _
theorem ZA(n:Nat):(KO aR w B con n).con=con:=by cases n<;>rfl
theorem L9(d:Nat):(K0 d).con=Ca:=by
 by_cases t:T0
 .rw[Dy t];exact ZA _
 .rw[H8 t]
theorem lw(d:Nat):(K0 d).aV:=by
 by_cases t:T0
 .rw[Dy t];exact MY _ _ _ _ _
 .rw[H8 t];exact λw w w w w w w=>trivial
theorem Yc(h:(K0 24).call 922 [.con KL] [] (λv u=>v= .bool b9)):∀(aR:nN) (w:dw) (B:Heap) (mg mb:Str->Option nr) (sa:Nat) (ns:List Int),ns.length<=63->yD sa=U->Tp aR w (z7 sa ns) B mg mb->(KO aR w B (z7 sa ns) 24).call 922 [.con sa] [] (λv u=>v= .bool b9):=
 hk7 (z:=nCx) λa b af=>by
  have e1:KL=cx.1.2:=cG b;have e2:PB=cx.2:=cG a;have z:=h;rw[Dy (by unfold T0 Ca;rw[e1,e2];exact af)] at z;unfold Ca at z;rw[e1,e2] at z;exact z
abbrev KC(d:Nat)(f:Fn)(a k n:Nat):Prop:=
 ∀{vs:List V} {T:H} {Q:V->H->Prop},vs.length=k->(o6 T.length T->uO (K0 d) f.body (oU n vs) T (qP T.length Q))->(K0 (d+1)).call a vs T Q
section
variable{d:Nat}
theorem kc(st:Stmt)(q:String)(m:nr)(e:fL w0.params f st q a=fR st q m a k n):KC d f a k n:=λ{vs T Q} hl h=>by
 by_cases af:T0
 .rw[Dy af] at h ⊢;exact
   have e5:f.na=k:=cI (·.2.2.2.2.2.1) e
   have e6:(Bs st q).scope.names.length=n:=cI (·.2.2.2.2.2.2.1) e
   RL af ⟨_,_,af.bV _ _ (cI (·.1) e),rfl,rfl,cI (·.2.2.2.1) e,rfl,rfl,cI (·.2.2.2.2.2.2.2.1) e,cI (·.2.2.2.2.2.2.2.2) e,cI (·.2.1) e,codeRec_of af.bV (cI (·.2.2.1) e)⟩ (cI (·.2.2.2.2.1) e) (hl.trans e5.symm) (e6▸h)
 .rw[H8 af];trivial
def m0:nr:=MineH.Lake.S "chess.kinds" 187
def m1:nr:=MineH.Lake.S "chess.bits" 278
def m2:nr:=MineH.Lake.S "chess.lines" 312
def m3:nr:=MineH.Lake.S "chess.geometry" 401
def m4:nr:=MineH.Lake.S "chess.sliders" 562
def m5:nr:=MineH.Lake.S "chess.position" 629
def m6:nr:=MineH.Lake.S "chess.attacks" 728
def m7:nr:=MineH.Lake.S "chess.castling" 865
def m8:nr:=MineH.Lake.S "chess.piecemoves" 917
def m9:nr:=MineH.Lake.S "chess.pawnmoves" 956
def Pz:nr:=MineH.Lake.S "chess.evasions" 1094
def VJ:nr:=MineH.Lake.S "chess.legality" 1129
def XM:nr:=MineH.Lake.S "chess.movegen" 1168
def ua:nr:=MineH.Lake.S "chess.draws" 1192
def zc:nr:=MineH.Lake.S "chess.makemove" 1336
def M2:nr:=MineH.Lake.S "chess.zobrist" 1449
def PE:nr:=MineH.Lake.S "law_nt0468_01" 1486
theorem HU:KC d Hc 21 2 2:=kc (em 15) "make_piece" m0 ()
theorem N3:KC d OJ 28 1 1:=kc (em 16) "side_of" m0 ()
theorem NW:KC d NX 35 1 1:=kc (em 17) "kind_of" m0 ()
theorem IW:KC d Jt 42 4 7:=kc (em 18) "pack_move" m0 ()
theorem I2:KC d Kg 49 1 1:=kc (em 19) "move_from" m0 ()
theorem Oc:KC d OO 56 1 1:=kc (em 20) "move_to" m0 ()
theorem E3:KC d DI 63 1 1:=kc (em 21) "move_special" m0 ()
theorem Ho:KC d Hq 70 1 4:=kc (em 22) "move_promo" m0 ()
theorem CP:KC d Cg 77 1 1:=kc (em 24) "more_than_one" m1 ()
theorem O8:KC d Ow 84 1 3:=kc (em 25) "highest" m1 ()
theorem QI:KC d RD 91 1 2:=kc (em 26) "lowest" m1 ()
theorem GU:KC d Ia 98 1 3:=kc (em 27) "squares_of" m1 ()
theorem IN:KC d Kk 105 3 5:=kc (em 29) "direction" m2 ()
theorem NZ:KC d Ox 112 3 5:=kc (em 30) "between" m2 ()
theorem Yo:KC d XO 119 3 5:=kc (em 31) "line" m2 ()
theorem N4:KC d NU 126 4 5:=kc (em 32) "aligned" m2 ()
theorem Ct:KC d wJ 174 5 5:=kc (Ko (em 39) 0) "Geometry.__init__" m3 ()
theorem zh:KC d Ah 188 1 2:=kc (em 40) "is_growing" m3 ()
theorem Jm:KC d BM 195 1 6:=kc (em 41) "add_masks" m3 ()
theorem Cp:KC d wB 202 2 5:=kc (em 42) "inner_squares" m3 ()
theorem Lj:KC d En 209 1 13:=kc (em 43) "add_rays" m3 ()
theorem JR:KC d BI 216 1 3:=kc (em 44) "add_pawns" m3 ()
theorem FG:KC d yp 223 1 12:=kc (em 45) "add_knights" m3 ()
theorem FW:KC d yn 230 1 8:=kc (em 46) "add_castles" m3 ()
theorem Ci:KC d wE 237 4 12:=kc (em 47) "make_geometry" m3 ()
theorem Fs:KC d FS 244 4 8:=kc (em 49) "ray_attacks" m4 ()
theorem Eb:KC d EV 251 3 7:=kc (em 50) "rook_attacks" m4 ()
theorem Bb:KC d A9 258 3 7:=kc (em 51) "bishop_attacks" m4 ()
theorem Cx:KC d CG 265 3 5:=kc (em 52) "queen_attacks" m4 ()
theorem BD:KC d BB 272 4 10:=kc (em 53) "slider_attacks" m4 ()
theorem Cs:KC d Cu 279 5 9:=kc (em 54) "piece_attacks" m4 ()
theorem CE:KC d wC 293 3 5:=kc (Ko (em 56) 0) "Position.__init__" m5 ()
theorem IX:KC d Jc 307 3 6:=kc (em 57) "put_piece" m5 ()
theorem H4:KC d HD 314 2 7:=kc (em 58) "take_piece" m5 ()
theorem FB:KC d FM 321 3 9:=kc (em 59) "shift_piece" m5 ()
theorem Ks:KC d Mm 328 1 3:=kc (em 60) "occupied" m5 ()
theorem Rs:KC d SH 335 3 3:=kc (em 61) "pieces" m5 ()
theorem FK:KC d FL 342 2 4:=kc (em 62) "king_square" m5 ()
theorem yH:KC d yJ 349 1 3:=kc (em 64) "straight_sliders" m6 ()
theorem y4:KC d yB 356 1 3:=kc (em 65) "slanting_sliders" m6 ()
theorem AO:KC d A4 363 3 4:=kc (em 66) "pawn_attackers" m6 ()
theorem Bo:KC d BF 370 3 8:=kc (em 67) "step_attackers" m6 ()
theorem Bc:KC d AH 377 3 10:=kc (em 68) "line_attackers" m6 ()
theorem Ev:KC d D1 384 3 8:=kc (em 69) "attackers_to" m6 ()
theorem FZ:KC d FF 391 4 13:=kc (em 70) "is_attacked" m6 ()
theorem FC:KC d FU 398 2 7:=kc (em 71) "checkers_of" m6 ()
theorem Lo:KC d LQ 405 1 2:=kc (em 72) "checkers" m6 ()
theorem F2:KC d Fv 412 2 7:=kc (em 73) "in_check_of" m6 ()
theorem Kx:KC d Li 419 1 2:=kc (em 74) "in_check" m6 ()
theorem Ht:KC d Ih 426 2 9:=kc (em 75) "snipers_of" m6 ()
theorem KH:KC d Lk 433 2 16:=kc (em 76) "blockers" m6 ()
theorem Cw:KC d Ce 440 2 3:=kc (em 77) "pinned_pieces" m6 ()
theorem BH:KC d Bu 447 2 2:=kc (em 86) "squares_within" m7 ()
theorem Bj:KC d Bi 454 2 19:=kc (em 87) "castle_refusal" m7 ()
theorem EI:KC d Dp 461 2 12:=kc (em 88) "add_castling" m7 ()
theorem Jq:KC d IL 468 3 8:=kc (em 93) "add_goals" m8 ()
theorem zw:KC d zy 475 4 12:=kc (em 94) "add_piece_moves" m8 ()
theorem D7:KC d EA 482 2 5:=kc (em 95) "stage_target" m8 ()
theorem Kl:KC d J9 489 2 3:=kc (em 97) "push_step" m9 ()
theorem Jy:KC d J7 503 2 3:=kc (em 99) "last_mask" m9 ()
theorem Hu:KC d Hh 510 3 4:=kc (em 100) "shift_push" m9 ()
theorem Cq:KC d CQ 517 4 5:=kc (em 101) "shift_capture" m9 ()
theorem D9:KC d Fi 524 2 13:=kc (em 102) "push_targets" m9 ()
theorem AS:KC d BE 531 5 15:=kc (em 103) "add_promotions" m9 ()
theorem yN:KC d yV 538 3 15:=kc (em 104) "add_plain_pushes" m9 ()
theorem wL:KC d wO 545 4 13:=kc (em 105) "add_push_promotions" m9 ()
theorem xV:KC d yb 552 4 22:=kc (em 106) "add_pawn_captures" m9 ()
theorem AB:KC d AI 559 4 9:=kc (em 107) "add_pawn_moves" m9 ()
theorem AX:KC d AM 566 2 10:=kc (em 108) "add_en_passant" m9 ()
theorem zg:KC d zP 573 2 6:=kc (em 110) "evasion_targets" Pz ()
theorem vF:KC d vQ 587 2 3:=kc (em 112) "may_answer_en_passant" Pz ()
theorem DS:KC d DU 594 2 16:=kc (em 113) "add_evasions" Pz ()
theorem Mf:KC d K8 615 3 19:=kc (em 118) "is_legal" VJ ()
theorem Lg:KC d LX 622 2 19:=kc (em 120) "generate" XM ()
theorem A3:KC d BG 629 1 12:=kc (em 121) "has_legal_move" XM ()
theorem yU:KC d yW 636 1 2:=kc (em 130) "reversible_plies" ua ()
theorem Ie:KC d Ik 643 2 3:=kc (em 131) "key_before" ua ()
theorem FV:KC d FO 650 1 6:=kc (em 132) "repetitions" ua ()
theorem CN:KC d Cd 657 2 3:=kc (em 133) "is_repetition" ua ()
theorem wQ:KC d wM 664 1 6:=kc (em 134) "repetition_distance" ua ()
theorem Dn:KC d E8 671 1 7:=kc (em 135) "has_repeated" ua ()
theorem Dq:KC d EW 678 1 3:=kc (em 136) "is_checkmate" ua ()
theorem Dl:KC d DO 685 1 3:=kc (em 137) "is_stalemate" ua ()
theorem Ld:KC d K4 692 1 3:=kc (em 138) "is_fifty" ua ()
theorem CH:KC d Cr 699 2 2:=kc (em 139) "square_colour" ua ()
theorem vI:KC d vO 706 1 6:=kc (em 140) "bishops_on_one_colour" ua ()
theorem Ar:KC d zv 713 1 9:=kc (em 141) "is_insufficient" ua ()
theorem zk:KC d Aw 720 1 4:=kc (em 142) "is_draw_by_rule" ua ()
theorem xW:KC d yc 727 2 5:=kc (em 143) "is_draw_in_search" ua ()
theorem Oq:KC d Pf 734 1 12:=kc (em 144) "outcome" ua ()
theorem Fr:KC d FP 741 1 6:=kc (em 145) "result_text" ua ()
theorem FI:KC d FJ 748 2 9:=kc (em 147) "moved_piece" zc ()
theorem Cl:KC d CJ 755 2 7:=kc (em 148) "taken_square" zc ()
theorem B8:KC d Cy 769 4 8:=kc (em 151) "passed_square" zc ()
theorem Fx:KC d FQ 776 3 4:=kc (em 152) "kept_rights" zc ()
theorem EQ:KC d D0 783 1 1:=kc (em 153) "clear_ep_key" zc ()
theorem G0:KC d G6 790 2 2:=kc (em 154) "set_ep_key" zc ()
theorem AU:KC d AL 797 2 2:=kc (em 155) "set_rights_key" zc ()
theorem Ot:KC d OU 804 2 32:=kc (em 156) "do_move" zc ()
theorem I7:KC d Kj 811 1 28:=kc (em 157) "undo_move" zc ()
theorem DF:KC d xD 825 5 5:=kc (Ko (em 159) 0) "Zobrist.__init__" M2 ()
theorem Me:KC d EE 857 4 13:=kc (em 163) "_law_hits" PE ()
theorem KN:KC d L5 864 5 9:=kc (em 164) "_law_safe" PE ()
theorem Jo:KC d J2 869 4 8:=kc (em 165) "_law_goals" PE ()
theorem LM:KC d LN 876 5 8:=kc (em 166) "_law_fits" PE ()
theorem Lh:KC d Mh 881 5 13:=kc (em 167) "_law_pick" PE ()
theorem KA:KC d LO 888 5 7:=kc (em 168) "_law_back" PE ()
theorem Mg:KC d K3 895 4 9:=kc (em 169) "_law_kept" PE ()
theorem LV:KC d L6 900 2 5:=kc (em 170) "_law_bare" PE ()
theorem HV:KC d wr 905 7 31:=kc (em 171) "_law_agrees" PE ()
theorem Js:KC d BL 912 5 16:=kc (em 172) "_law_cells" PE ()
theorem E1:KC d qy 917 6 18:=kc (em 173) "_law_position" PE ()
theorem ZD:KC d GP 922 1 36:=kc (em 174) "law" PE ()
end
end
section
open MineH.Lake (KF Yy em Ko U2 CZ Ay Bs Lz Ey Rw H9 qw vd Fu Jx VT)
theorem Xy(P:nG):nsIn (KF P) mainGlobals Jx=J (J (.ref 922)):=()
theorem PT:Fu.name=Jx:=()
theorem Sa(h:dh.row.toRowW.claim.pre args=b9):∃xs,args=[.list xs]/\jc [] xs .int=b9/\xs.length<=63:=by
 obtain⟨h1,h2⟩:=pre_splitW (r:=dh.row.toRowW) h;obtain⟨d,r,rfl,a,b⟩:=hasAllW_cons (e:=.list .int) (es:=[]) h1;have e:=hasAllW_nil b;subst e;obtain⟨xs,rfl,hx⟩:=hasW_list a;refine⟨xs,rfl,hx,?_⟩;have h3:WTm.holds [] (.and (.not (.lt (.lit (.int 63)) (.len (.arg 0)))) (.lit (.bool b9))) {args:=[.list xs]}=b9:=h2;refine cM λk=>?_;have:¬(xs.length<=63):=k;have q:(63:Int)<(xs.length:Int):=eK.mpr (jL this);have e:less? (.int 63) (.int (xs.length:Int))=J b9:=by simp [less?,Num.less?,q]
 simp [WTm.holds,nj,e] at h3
theorem XW(r:ReadsW [] cl h v (.int i) as):VR [] (.int i) v:=by
 ext cl h v i as;cases r;exact rfl
theorem Ep:∀{xs:List WData} {vs:List nr} {as:List Addr},ReadsAllW [] cl h vs xs as->jc [] xs .int=b9->∃ns:List Int,ns.length=xs.length/\qX [] (ns.map .int) vs
 | [],_,_,r,_=>by cases r;exact⟨[],rfl,.nil⟩
 | d::ds,_,_,r,hx=>by
  cases r with
  | cons r1 r2=>exact(hasW_int (bl hx)).elim λi e=>(Ep r2 (br hx)).elim λns h=>⟨i::ns,cI lU h.1,.cons (XW (e▸r1)) h.2⟩
theorem Ua(r:ReadsW [] cl h v (.list xs) as)(hx:jc [] xs .int=b9):∃sa,∃ns:List Int,v= .ref sa/\ns.length=xs.length/\CR h sa (.list (ns.map .int)):=by
 ext cl h v xs as;cases r with
 | list g hc hd hall=>exact(Ep hall hx).elim λns h=>⟨_,ns,rfl,h.1,_,⟨_,g,hc,_,hd⟩,h.2⟩
theorem RC(hr:ReadsAllW [] cl h aF [.list xs] as)(hx:jc [] xs .int=b9):
  ∃sa,∃ns:List Int,aF=[.ref sa]/\ns.length=xs.length/\CR h sa (.list (ns.map .int)):=by
 ext cl h aF xs as;cases hr with
 | cons r1 r2=>cases r2;exact(Ua r1 hx).elim λsa h=>h.elim λns h=>⟨sa,ns,cI (λv=>[v]) h.1,h.2⟩
def Zd:nr->Bool
 | .ref _=>b9
 | _=>cj
def Xv(vs:List nr):Bool:=match vs with
 | []=>cj
 | v::_=>Zd v
theorem Uw:∀{ns:List Int} {vs:List nr},qX [] (ns.map .int) vs->Xv vs=cj
 | [],_,m=>by cases m;rfl
 | _::_,_,m=>by cases m with | @cons _ v _ _ a _=>cases v<;>first | rfl | exact a.elim
def TG(o:Obj):Bool:=vv (Wq o.cls) cj (· == "list")&&vv (X9 o.data) cj λvs=> !Xv vs.toList
theorem XA(P:nG):Mk.map (λq=>((KF P).lookup q.1).map TG)=Mk.map λw=>J cj:=()
theorem Xm{B:Heap}(X:(KF P).In B){sa:Addr}{ns:List Int}(h:CR B sa (.list (ns.map .int))){p:Bool × List V}(q:yD sa=J p):False:=
 (dj.mp (qm (XA P) _ (HL q))).elim λo r=>h.elim λvs ⟨⟨o2,g,hc,n,hd⟩,m⟩=>
  have e:o2=o:=cL (g.symm.trans (X _ _ r.1))
  have z:TG o2=b9:=by
   unfold TG;rw[hc,hd];show("list" == "list"&& !Xv vs)=b9;rw[Uw m];rfl
  dd (r.2.symm.trans ((cI TG e).symm.trans z))
theorem Uk (L:∀(aR:nN) (w:dw) (B:Heap) (mg mb:Str->Option nr) (sa:Nat) (ns:List Int),ns.length<=63->yD sa=U->Tp aR w (z7 sa ns) B mg mb->
   (KO aR w B (z7 sa ns) 24).call 922 [.con sa] [] (λv _=>v= .bool b9)):dh.Holds:=by
 refine VT λw s₀ s₁ mg mb G Y a o pm cd doc dV kV ho hd hcd hD hmg hg args aF as hpre hlay hrd hwl hlo=>?_;obtain⟨xs,rfl,hx,hlen⟩:=Sa hpre;obtain⟨sa,ns,rfl,hn,hs⟩:=RC hrd hx;have T0:=G.T;have af:Tp dh.row.toRowW.prog w (z7 sa ns) s₁.heap mg mb:=Wu Y T0.g T0.b T0.builtins T0.nolimit hs;have e:mg Jx=J (.ref 922):=mg_of af.bV T0.g (Xy w.params);rw[PT,e] at hmg;have ea:922=a:=by injection hmg with x;injection x
 subst ea;have hq:yD sa=U:=by
  cases q:yD sa with
  | none=>rfl
  | some p=>exact(Xm af.bV hs q).elim
 have W:=L dh.row.toRowW.prog w s₁.heap mg mb sa ns (by lia) hq af;have R:pA s₁.heap [] [] s₁.heap:=⟨rfl,λi p o e=>(nomatch e),λi j p q e=>(nomatch e),λi p e=>(nomatch e),λb o e=>e⟩
 have m:qX [] [.con sa] [Value.ref sa]:=.cons rfl .nil;refine nL (Vt _ w s₁.heap (z7 sa ns) 24 922 [.con sa] [] _ W callerA [] s₁ _ ⟨rfl,by decide +kernel,by decide +kernel⟩ R m) ?_ ?_
 .rintro v s' ⟨va,aK,rfl,aL,p⟩;have hv:v= .bool b9:=by
   have:=p.val;cases v<;>first | exact this.elim | skip
   rename_i b;have:b9=b:=this;rw[<- this]
  subst hv;refine⟨.inl ⟨_,.bool b9,[],rfl,λcls=>raisesW_false (r:=dh.row.toRowW) (λct h=>by cases h) cls,.bool b9,?_,λ_=>⟨.nil,λa h=>by cases h⟩⟩,.of_keep λb o e=>p.keep b o e λi q z=>(by cases z),p.os,.of_eq (p.gens.trans hg)⟩;refine postW_of (r:=dh.row.toRowW) (by show WShape.has [] (.bool b9) .bool=b9;rfl) (X:=b9) ?_ rfl;show nj [] (.eq .res (.lit (.bool b9))) _=_;simp [nj,same]
 .intro e s' h;exact h.elim
end
end
end Mine.Lake
end
namespace Mine.Lake
noncomputable section
section
open PySem PyProof.Rows
def nv(n:Nat):V:=.int (n:Int)
def oq(a b:Nat):Nat:=a - (a &&& b)
theorem xs_{x y u v p q r s:Nat}(h:x+2*y=u+v)(k:p+2*q=r+s):2*x+p+2*(2*y+q)=2*u+r+(2*v+s):=by lia
theorem Ii:∀(a b:Nat),(a ^^^ b)+2*(a &&& b)=a+b:=by
 intro a
 induction a using Nat.strongRecOn with
 | _ a ih=>
  intro b;by_cases h:a=0
  .subst h;simp
  .have i:=ih (a/2) (by lia) (b/2);have e1:(a ^^^ b)/2=a/2 ^^^ b/2:=Nat.xor_div_two;have e2:(a &&& b)/2=a/2 &&& b/2:=Nat.and_div_two;have m1:(a ^^^ b)%2=(a%2+b%2)%2:=by
    have q:=Nat.xor_mod_two_pow (a:=a) (b:=b) (n:=1);rw[Nat.pow_one] at q;rw[q];rcases dK a with x | x<;>rcases dK b with y | y<;>rw[x,y]<;>rfl
   have m2:(a &&& b)%2=(a%2)*(b%2):=by
    have q:=Nat.and_mod_two_pow (a:=a) (b:=b) (n:=1);rw[Nat.pow_one] at q;rw[q];rcases dK a with x | x<;>rcases dK b with y | y<;>rw[x,y]<;>rfl
   have k:(a ^^^ b)%2+2*((a &&& b)%2)=a%2+b%2:=by
    rw[m1,m2];rcases dK a with x | x<;>rcases dK b with y | y<;>rw[x,y]
   have z:=xs_ i k;rw[<- e1,<-e2,gf,gf,gf,gf] at z;exact z
theorem Wj(a b:Nat):fY (a:Int) (b:Int)=((a &&& b:Nat):Int):=by
 unfold fY;simp
theorem abp(a b:Nat):lq (a:Int) (b:Int)=((a ||| b:Nat):Int):=by
 unfold lq;have h:∀n:Nat,¬(0<=dZ (n:Int)):=λn=>by unfold dZ;lia
 have e:∀x:Int,dZ (dZ x)=x:=λx=>by unfold dZ;lia
 unfold fY;simp only[h,decide_false,e,fe]
theorem YI(a b:Nat):mW (a:Int) (b:Int)=((a ^^^ b:Nat):Int):=by
 rw[bitXor_and,Wj];have:=Ii a b;lia
theorem KS(a b:Nat):a &&& b<=a:=dG
theorem Du(a b:Nat):fY (a:Int) (dZ (b:Int))=((oq a b:Nat):Int):=by
 ext a b;have h:¬(0<=dZ (b:Int)):=by unfold dZ;lia
 have e:dZ (dZ (b:Int))=(b:Int):=by unfold dZ;lia
 unfold fY;have:=KS a b;simp only[h,decide_false,e,fe,dU,decide_true];unfold oq;lia
theorem Qu(b:Nat):fY (b:Int) (-(b:Int))=((oq b (b - 1):Nat):Int):=by
 by_cases h:b=0
 .subst h;rfl
 .have e:-(b:Int)=dZ ((b - 1:Nat):Int):=by unfold dZ;lia
  rw[e,Du]
section
variable{K:pN}{a b:Nat}{h:H}{Q:V->H->Prop}{P:Bool->Prop}
theorem Bf(l:a<1000000000):small (a:Int)=b9:=by
 unfold small
 (rewrite [ax,cA,cA];try with_reducible rfl)
 lia
theorem V8:tj (pD .add (nv a) (nv b) h) Q=Q (nv (a+b)) h:=rfl
theorem Vx(l:b<=a):tj (pD .sub (nv a) (nv b) h) Q=Q (nv (a - b)) h:=cI (λi=>Q (.int i) h) (fK l).symm
theorem C5[Decidable c](l:c)(e:v=v'):tj (if c then J (v,h) else .none) Q=Q v' h:=(cI (tj · Q) (cG l)).trans (cI (Q · h) e)
theorem V3(l:a<1000000000)(l':b<1000000000):tj (pD .mul (nv a) (nv b) h) Q=Q (nv (a*b)) h:=by
 have e:(small (a:Int)&&small (b:Int))=b9:=dc.mpr ⟨Bf l,Bf l'⟩;show tj (if(small (a:Int)&&small (b:Int))=b9 then J (V.int ((a:Int)*(b:Int)),h) else .none) Q=_;rw[cG e];exact cI (λi=>Q (.int i) h) (mN a b).symm
theorem RJ(l:0<b)(l':b<1000000):tj (pD .div (nv a) (nv b) h) Q=Q (nv (a/b)) h:=
 C5 (dc.mpr ⟨cC (eK.mpr l),cC (eK.mpr l')⟩) (cI V.int (ju _ (dU b)))
theorem VC(l:0<b):tj (pD .mod (nv a) (nv b) h) Q=Q (nv (a%b)) h:=C5 (eK.mpr l) (cI V.int (hH _ (dU b)))
theorem VV(l:a<1000000000)(l':b<=1000000):tj (pD .shl (nv a) (nv b) h) Q=Q (nv (a <<< b)) h:=
 C5 (dc.mpr ⟨dc.mpr ⟨cC (dU b),cC (gx.mpr l')⟩,Bf l⟩) (cI V.int (by rw[h8,mN,mQ];rfl))
theorem SR:tj (pD .shr (nv a) (nv b) h) Q=Q (nv (a >>> b)) h:=
 C5 (dU b) (cI V.int (by
  show fH (a:Int) (2 ^ b)=((a >>> b:Nat):Int)
  rw[ju _ (Int.pow_nonneg ⋯),dC,Int.natCast_ediv,mQ];rfl))
theorem RI:tj (pD .band (nv a) (nv b) h) Q=Q (nv (a &&& b)) h:=cI (λi=>Q (.int i) h) (Wj a b)
theorem Qt:tj (pD .bor (nv a) (nv b) h) Q=Q (nv (a ||| b)) h:=cI (λi=>Q (.int i) h) (abp a b)
theorem PR:tj (pD .bxor (nv a) (nv b) h) Q=Q (nv (a ^^^ b)) h:=cI (λi=>Q (.int i) h) (YI a b)
theorem Oi:tj (pD .band (nv a) (.int (dZ (b:Int))) h) Q=Q (nv (oq a b)) h:=cI (λi=>Q (.int i) h) (Du a b)
theorem O2:tj (pD .band (nv a) (.int (-(a:Int))) h) Q=Q (nv (oq a (a - 1))) h:=cI (λi=>Q (.int i) h) (Qu a)
theorem aa1:yo (th K .eq (nv a) (nv b) h) P=P (cu (a=b)):=cI P (de.mpr (beq_iff_eq.trans (Int.ofNat_inj.trans decide_eq_true_iff.symm)))
theorem abb:yo (th K .ne (nv a) (nv b) h) P=P (cu (a≠b)):=cI P (de.mpr (bne_iff_ne.trans ((not_congr Int.ofNat_inj).trans decide_eq_true_iff.symm)))
theorem abi:yo (th K .lt (nv a) (nv b) h) P=P (cu (a<b)):=cI P (decide_eq_decide.mpr eK)
theorem aaW:yo (th K .gt (nv a) (nv b) h) P=P (cu (b<a)):=cI P (decide_eq_decide.mpr eK)
theorem abv:yo (th K .ge (nv a) (nv b) h) P=P (cu (b<=a)):=cI P (decide_eq_decide.mpr gx)
theorem Nr(s:pQ K h x=J xs)(g:xs[a]? =J v)(l:a<1000000):GQ (xf K x (nv a) h) h Q=Q v h:=by
 have e:xf K x (nv a) h=J v:=by
  show((pQ K h x).bind λxs=>if 0<=(a:Int)/\(a:Int)<1000000 then xs[(a:Int).toNat]? else .none)=_;rw[s,eT,cG ⟨dU a,eK.mpr l⟩];exact g
 rw[e];rfl
theorem Qw(g:h[p]? =J (.inst c fs))(l:fs.lookup n=J v):GQ (w9 (.ref p) n h) h Q=Q v h:=by
 have e:w9 (.ref p) n h=J v:=by
  show Zx h[p]? _=_;rw[g];exact l
 rw[e];rfl
theorem G7(g:tS K h x=J o)(e:(match (J o:Option O) with | some (.list xs)=>J xs | some (.tup xs)=>J xs | _=>.none)=r):pQ K h x=r:=by
 unfold pQ;rw[g];exact e
theorem io(g:h[p]? =J (.list xs)):pQ K h (.ref p)=J xs:=G7 (x:=.ref p) g rfl
theorem ud(g:h[p]? =J (.tup xs)):pQ K h (.ref p)=J xs:=G7 (x:=.ref p) g rfl
theorem JS{c:Nat}{o:Bool × List V}{xs:List V}(g:K.con c=J (.tup xs)):pQ K h (.con c)=J xs:=G7 (x:=.con c) g rfl
theorem ZN(s:pQ K h x=J xs)(l:xs.length<=1000000):GQ (IT K x h) h Q=Q (nv xs.length) h:=by
 have e:IT K x h=J (nv xs.length):=by
  unfold IT;rw[s];exact cG l
 rw[e];rfl
theorem Bq(F:List V->Option β)(g:r=J (.list xs)):Ye r F=F xs:=by rw[g];rfl
theorem Xw(F:Nat->List (Nat × V)->Option β)(g:r=J (.inst c fs)):Zx r F=F c fs:=by rw[g];rfl
theorem Dm(F:Nat->Option β):SA (.ref p) F=F p:=rfl
theorem Qh(F:Int->Option β):YA (.int i) F=F i:=rfl
theorem DQ(g:h[p]? =J (.list xs))(hi:i<xs.length)(hm:xs.length<1000):pZ (.ref p) (nv i) v h=J (h.set p (.list (xs.set i v))):=by
 unfold pZ nv;rw[Dm,Qh,Bq _ g,cG ⟨dU i,by lia,by rw[fe];exact hi⟩,fe]
theorem KB(g:h[p]? =J (.inst c fs))(l:fs.length<100):rW (.ref p) n v h=J (h.set p (.inst c (ER n v fs))):=by
 unfold rW;rw[Dm,Xw _ g,cG l]
theorem BO(g:h[p]? =J (.list xs))(l:xs.length<1000):pu (.ref p) v h=J (.none,h.set p (.list (xs++[v]))):=by
 unfold pu;rw[Dm,Bq _ g,cG l]
theorem K9(g:h[p]? =J (.list xs))(e:xs.getLast? =J v)(l:xs.length<=1000):CV (.ref p) h=J (v,h.set p (.list xs.dropLast)):=by
 unfold CV;rw[Dm,Bq _ g,e,eT,cG l]
theorem LP(g:h[p]? =J (.list xs))(e:uK xs=J ns)(m:k∈ns)(l:ns.length<=1000):Ao (.ref p) (.int k) h=J (.int (ns.idxOf k:Nat)):=by
 unfold Ao;rw[Dm,Qh,Bq _ g,e,eT,cG ⟨m,l⟩]
theorem tC{x lo hi:V}(g:tS K h x=J (.list xs))(e1:wY lo 0=J a)(e2:wY hi xs.length=J b)(l:xs.length<=1000):xT K x lo hi h=J (.ref h.length,h++[.list ((xs.take b).drop a)]):=by
 unfold xT;rw[Bq _ g,e1,eT,e2,eT,cG l]
theorem Uj(a:Int)(h:H):te [.int a] h=if yP a=b9 then J (V.ref h.length,h++[O.aT 0 a 1]) else .none:=rfl
theorem UH(a b:Int)(h:H):te [.int a,.int b] h=if(yP a&&yP b)=b9 then J (V.ref h.length,h++[O.aT a b 1]) else .none:=rfl
theorem TH(a b c:Int)(h:H):te [.int a,.int b,.int c] h=if(yP a&&yP b&&(c == 1||c == 2||c == -1))=b9 then J (V.ref h.length,h++[O.aT a b c]) else .none:=rfl
theorem Qg(g:h[p]? =J (.list xs)):TW h (.ref p)=b9:=by
 show(match h[p]? with | some (.list _)=>b9 | _=>cj)=b9;rw[g]
theorem xM:wY (nv n) d=J n:=by
 show(if 0<=(n:Int) then J (n:Int).toNat else .none)=_;rw[cG (dU n)];rfl
end
section
variable{K:pN}{e:nw}{h:H}{Q:QS}
theorem ID(mf:∀v e h (P P':QS),(∀a b c,P a b c->P' a b c)->f v e h P->f v e h P')(N:Nat)(I:Nat->nw->H->Prop)
  (step:∀j,j<N->∀e h,I j e h->∃v,oG K k h x j=J (J v)/\f v e h (o8 (I (j+1)) Q)) (done:∀e h,I N e h->oG K k h x N=J .none/\Q .next e h):
  ∀(m j:Nat) (e:nw) (h:H),j+m=N->I j e h->Iy K (m+1) k x j f e h Q
 | 0,j,e,h,q,z=>by
  obtain rfl:j=N:=q;show Ip (oG K k h x j) _ _;rw[(done _ _ z).1];exact(done _ _ z).2
 | m+1,j,e,h,q,z=>(step j (q▸fx (fJ m)) e h z).elim λv w=>by
  show Ip (oG K k h x j) _ _;rw[w.1];exact mf _ _ _ _ _ (xO (λe h z=>ID mf N I step done m (j+1) e h (by rw[Nat.succ_add];exact q) z) λu u u z=>z) w.2
theorem DE(mc:∀e h (P P':Bool->H->Prop),(∀a b,P a b->P' a b)->c e h P->c e h P')(mf:∀e h (P P':QS),(∀a b c,P a b c->P' a b c)->f e h P->f e h P')
  (I:Nat->nw->H->Prop) (step:∀m e h,I m e h->c e h λt h=>wT t (∃j,j<m/\f e h (o8 (I j) Q)) (Q .next e h)):∀(n m:Nat) (e:nw) (h:H),m<=n->I m e h->AE (n+1) c f e h Q
 | 0,m,e,h,q,z=>mc _ _ _ _ (λt h y=>⟨λe1=>(y.1 e1).elim λj w=>cJ w.1 (fX.mpr (cS q (dH j))),y.2⟩) (step m e h z)
 | n+1,m,e,h,q,z=>mc _ _ _ _ (λt h y=>⟨λe1=>(y.1 e1).elim λj w=>mf _ _ _ _ (xO (λe h z=>DE mc mf I step n j e h (dk (cQ w.1 q)) z) λu u u z=>z) w.2,y.2⟩) (step m e h z)
theorem Bl{x:V}{a:Nat}{f:V->H->(Option V->H->Prop)->Prop}{Q:V->H->Prop}(mf:∀v h (P P':Option V->H->Prop),(∀u h,P u h->P' u h)->f v h P->f v h P')(N:Nat)(I:Nat->H->Prop)
  (step:∀j,j<N->∀h,I j h->∃v,oG K k h x j=J (J v)/\f v h (λu h=>RB u (I (j+1) h) λu=>tj (pu (.ref a) u h) λg h=>I (j+1) h))
  (done:∀h,I N h->oG K k h x N=J .none/\Q (.ref a) h):∀(m j:Nat) (h:H),j+m=N->I j h->xB K (m+1) k x a j f h Q
 | 0,j,h,q,z=>by
  obtain rfl:j=N:=q;show Ip (oG K k h x j) _ _;rw[(done _ z).1];exact(done _ z).2
 | m+1,j,h,q,z=>(step j (q▸fx (fJ m)) h z).elim λv w=>by
  show Ip (oG K k h x j) _ _;rw[w.1];have r:=λh=>Bl mf N I step done m (j+1) h (by rw[Nat.succ_add];exact q);exact mf _ _ _ _ (λu h y=>D4 (r h) (λg y=>rR (λg h y=>r h y) y) y) w.2
end
end
structure db (K:pN) (c:E) (e:nw) (h:H) (v:V) (h':H):Prop where
 go:∀Q:V->H->Prop,Q v h'->ev K c e h Q
structure F7 (K:pN) (c:Es) (e:nw) (h:H) (v:List V) (h':H):Prop where
 go:∀Q:List V->H->Prop,Q v h'->Te K c e h Q
structure ii (K:pN) (f:Nat) (vs:List V) (h:H) (v:V) (h':H):Prop where
 go:∀Q:V->H->Prop,Q v h'->K.call f vs h Q
structure oI (K:pN) (r:Ss) (e:nw) (h:H) (Q:QS):Prop where
 go:uO K r e h Q
section
variable{K:pN}{e:nw}{h h1 h2 h3:H}{a b c:E}{i j n m p:Nat}{v x y z:V}{xs vs:List V}{es:Es}{t s:Bool}{o:Fk}{co:Kp}{fs:List (Nat × V)}
theorem r_loc(g:e[i]? =J (J v)):db K (.loc i) e h v h:=⟨λQ q=>by show Ip e[i]? False _;rw[g];exact q⟩
theorem GI:db K (.glo i v) e h v h:=⟨λQ q=>q⟩
theorem bv:db K (.glo i (.int (fq n))) e h (nv n) h:=⟨λQ q=>q⟩
theorem ac:db K (.int (fq n)) e h (nv n) h:=⟨λQ q=>q⟩
theorem qI:db K (.int k) e h (.int k) h:=⟨λQ q=>q⟩
theorem yk:db K .bK e h .none h:=⟨λQ q=>q⟩
theorem o7:db K (.bool t) e h (.bool t) h:=⟨λQ q=>q⟩
theorem BZ:db K (.str k) e h (.str k) h:=⟨λQ q=>q⟩
theorem ux(A:db K a e h x h1)(l:tr x=J t):db K (.not a) e h (.bool !t) h1:=⟨λQ q=>A.go _ (by rw[l];exact q)⟩
theorem zl(A:db K a e h (.int k) h1):db K (.neg a) e h (.int (-k)) h1:=⟨λQ q=>A.go _ q⟩
theorem uF(A:db K a e h x h1)(B:db K b e h1 y h2)(l:pD o x y h2=J (z,h3)):db K (.bin o a b) e h z h3:=⟨λQ q=>A.go _ (B.go _ (by rw[l];exact q))⟩
theorem qK(A:db K a e h (nv n) h1)(B:db K b e h1 (nv m) h2):db K (.bin .add a b) e h (nv (n+m)) h2:=⟨λQ q=>A.go _ (B.go _ (V8.mpr q))⟩
theorem oM(A:db K a e h (nv n) h1)(B:db K b e h1 (nv m) h2)(l:m<=n):db K (.bin .sub a b) e h (nv (n - m)) h2:=⟨λQ q=>A.go _ (B.go _ ((Vx l).mpr q))⟩
theorem sr(A:db K a e h (nv n) h1)(B:db K b e h1 (nv m) h2)(l:n<1000000000)(l':m<1000000000):db K (.bin .mul a b) e h (nv (n*m)) h2:=⟨λQ q=>A.go _ (B.go _ (by(rewrite [V3 l l'];try with_reducible rfl);exact q))⟩
theorem sX(A:db K a e h (nv n) h1)(B:db K b e h1 (nv m) h2)(l:0<m)(l':m<1000000):db K (.bin .div a b) e h (nv (n/m)) h2:=⟨λQ q=>A.go _ (B.go _ ((RJ l l').mpr q))⟩
theorem wF(A:db K a e h (nv n) h1)(B:db K b e h1 (nv m) h2)(l:0<m):db K (.bin .mod a b) e h (nv (n%m)) h2:=⟨λQ q=>A.go _ (B.go _ ((VC l).mpr q))⟩
theorem qu(A:db K a e h (nv n) h1)(B:db K b e h1 (nv m) h2)(l:n<1000000000)(l':m<=1000000):db K (.bin .shl a b) e h (nv (n <<< m)) h2:=⟨λQ q=>A.go _ (B.go _ (by rw[VV l l'];exact q))⟩
theorem rF(A:db K a e h (nv n) h1)(B:db K b e h1 (nv m) h2):db K (.bin .shr a b) e h (nv (n >>> m)) h2:=⟨λQ q=>A.go _ (B.go _ (SR.mpr q))⟩
theorem nb(A:db K a e h (nv n) h1)(B:db K b e h1 (nv m) h2):db K (.bin .band a b) e h (nv (n &&& m)) h2:=⟨λQ q=>A.go _ (B.go _ (RI.mpr q))⟩
theorem qJ(A:db K a e h (nv n) h1)(B:db K b e h1 (nv m) h2):db K (.bin .bor a b) e h (nv (n ||| m)) h2:=⟨λQ q=>A.go _ (B.go _ (Qt.mpr q))⟩
theorem zb(A:db K a e h (nv n) h1)(B:db K b e h1 (nv m) h2):db K (.bin .bxor a b) e h (nv (n ^^^ m)) h2:=⟨λQ q=>A.go _ (B.go _ (PR.mpr q))⟩
theorem xy(A:db K a e h (nv n) h1)(B:db K b e h1 (nv m) h2):db K (.bin .band a (.inv b)) e h (nv (oq n m)) h2:=⟨λQ q=>A.go _ (B.go _ (Oi.mpr q))⟩
theorem YE(A:db K a e h (nv n) h1)(B:db K b e h1 (nv n) h2):db K (.bin .band a (.neg b)) e h (nv (oq n (n - 1))) h2:=⟨λQ q=>A.go _ (B.go _ (O2.mpr q))⟩
theorem pF(A:db K a e h x h1)(B:db K b e h1 y h2)(l:th K co x y h2=J t):db K (.cmp a co b) e h (.bool t) h2:=⟨λQ q=>A.go _ (B.go _ (by rw[l];exact q))⟩
theorem oQ(A:db K a e h (nv n) h1)(B:db K b e h1 (nv m) h2):db K (.cmp a .eq b) e h (.bool (cu (n=m))) h2:=⟨λQ q=>A.go _ (B.go _ (aa1.mpr q))⟩
theorem tP(A:db K a e h (nv n) h1)(B:db K b e h1 (nv m) h2):db K (.cmp a .ne b) e h (.bool (cu (n≠m))) h2:=⟨λQ q=>A.go _ (B.go _ (abb.mpr q))⟩
theorem Oj(A:db K a e h (nv n) h1)(B:db K b e h1 (nv m) h2):db K (.cmp a .lt b) e h (.bool (cu (n<m))) h2:=⟨λQ q=>A.go _ (B.go _ (abi.mpr q))⟩
theorem Jh(A:db K a e h (nv n) h1)(B:db K b e h1 (nv m) h2):db K (.cmp a .gt b) e h (.bool (cu (m<n))) h2:=⟨λQ q=>A.go _ (B.go _ (aaW.mpr q))⟩
theorem Kb(A:db K a e h (nv n) h1)(B:db K b e h1 (nv m) h2):db K (.cmp a .ge b) e h (.bool (cu (m<=n))) h2:=⟨λQ q=>A.go _ (B.go _ (abv.mpr q))⟩
theorem f8:F7 K .nil e h [] h:=⟨λQ q=>q⟩
theorem be(A:db K a e h x h1)(B:F7 K es e h1 xs h2):F7 K (.cons a es) e h (x::xs) h2:=⟨λQ q=>A.go _ (B.go _ q)⟩
theorem lc(g:e[i]? =J (J v))(B:F7 K es e h xs h2):F7 K (.cons (.loc i) es) e h (v::xs) h2:=be (r_loc g) B
theorem lz(g:e[i]? =J (J v)):F7 K (.cons (.loc i) .nil) e h [v] h:=lc g f8
theorem bi(A:F7 K es e h vs h1)(B:ii K f vs h1 v h2):db K (.call i f es) e h v h2:=⟨λQ q=>A.go _ (B.go _ q)⟩
theorem Wn(A:db K a e h (.ref p) h1)(g:h1[p]? =J (.inst cl fs))(l:fs.lookup n=J v):db K (.attr a n) e h v h1:=⟨λQ q=>A.go _ ((Qw g l).mpr q)⟩
theorem pz(A:db K a e h x h1)(B:db K b e h1 (nv j) h2)(s:pQ K h2 x=J xs)(g:xs[j]? =J v)(l:j<1000000):db K (.sub a b) e h v h2:=⟨λQ q=>A.go _ (B.go _ ((Nr s g l).mpr q))⟩
theorem t5(A:db K a e h x h1)(s:pQ K h1 x=J xs)(l:xs.length<=1000000):db K (.len i a) e h (nv xs.length) h1:=⟨λQ q=>A.go _ ((ZN s l).mpr q)⟩
theorem qp(A:F7 K es e h xs h1)(l:xs.length<=1000):db K (.list es) e h (.ref h1.length) (h1++[.list xs]):=⟨λQ q=>A.go _ ⟨l,q⟩⟩
theorem sZ(A:F7 K es e h xs h1)(l:xs.length<=1000):db K (.tup es) e h (.ref h1.length) (h1++[.tup xs]):=⟨λQ q=>A.go _ ⟨l,q⟩⟩
theorem ru(A:db K a e h x h1)(l:tr x=J t)(B:t=b9->db K b e h1 v h2)(C:t=cj->x=v/\h1=h2):db K (.and a b) e h v h2:=⟨λQ q=>A.go _ (by
 rw[l];exact⟨λe=>(B e).go _ q,λe=>by obtain⟨rfl,rfl⟩:=C e;exact q⟩)⟩
theorem EG(A:db K a e h x h1)(l:tr x=J t)(B:t=cj->db K b e h1 v h2)(C:t=b9->x=v/\h1=h2):db K (.or a b) e h v h2:=⟨λQ q=>A.go _ (by
 rw[l];exact⟨λe=>by obtain⟨rfl,rfl⟩:=C e;exact q,λe=>(B e).go _ q⟩)⟩
theorem sP(A:db K a e h (.bool s) h)(B:db K b e h (.bool t) h):db K (.and a b) e h (.bool (s&&t)) h:=
 ru A rfl (λe=>by rw[e];exact B) λe=>by rw[e];exact⟨rfl,rfl⟩
theorem sQ(A:db K a e h (.bool s) h)(B:db K b e h (.bool t) h):db K (.or a b) e h (.bool (s||t)) h:=
 EG A rfl (λe=>by rw[e];exact B) λe=>by rw[e];exact⟨rfl,rfl⟩
theorem Rq(A:db K c e h x h1)(l:tr x=J t)(B:t=b9->db K a e h1 v h2)(C:t=cj->db K b e h1 v h2):db K (.ite c a b) e h v h2:=⟨λQ q=>A.go _ (by
 rw[l];exact⟨λe=>(B e).go _ q,λe=>(C e).go _ q⟩)⟩
theorem oH:tr (nv n)=J (cu (n≠0)):=by
 unfold nv tr;by_cases e:n=0
 .simp [e]
 .have:(n:Int)≠0:=by lia
  simp [e,this]
theorem bm:tr (.bool t)=J t:=rfl
variable{Q:QS}{r:Ss}{sa sb:Ss}{is:List Nat}{e1:nw}
def sw(K:pN)(r:Ss)(Q:QS):QS:=C8 (λe h=>uO K r e h Q) Q
theorem om(q:Q .next e h):oI K .nil e h Q:=⟨q⟩
theorem ld(q:oI K r e h Q):oI K .nil e h (sw K r Q):=⟨q.go⟩
theorem bs(A:db K a e h v h1)(B:oI K r (e.set i (J v)) h1 Q):oI K (.cons (.assign (.loc i) a) r) e h Q:=⟨A.go _ B.go⟩
theorem Ax(A:db K a e h v h1)(g:tS K h1 v=J (.tup vs))(l':vs.length=is.length)(B:oI K r (AG is vs e) h1 Q):oI K (.cons (.assign (.tup is) a) r) e h Q:=⟨A.go _ (by
 unfold tM;dsimp only;rw[g];exact⟨l',B.go⟩)⟩
theorem RG(A:db K b e h v h1)(P:db K a e h1 x h2)(l:rW x n v h2=J h3)(B:oI K r e h3 Q):oI K (.cons (.assign (.attr a n) b) r) e h Q:=⟨A.go _ (P.go _ (by rw[l];exact B.go))⟩
theorem uB(A:db K c e h v h1)(P:db K a e h1 x h2)(I:db K b e h2 y h3)(l:pZ x y v h3=J h4)(B:oI K r e h4 Q):oI K (.cons (.assign (.sub a b) c) r) e h Q:=⟨A.go _ (P.go _ (I.go _ (by rw[l];exact B.go)))⟩
theorem oN(g:e[i]? =J (J x))(A:db K a e h y h1)(l:Cf o x y h1=J (v,h2))(B:oI K r (e.set i (J v)) h2 Q):oI K (.cons (.aug (.loc i) o a) r) e h Q:=by
 ext K e h h1 h2 a i v x y o Q r;exact⟨by
  show QM K (.loc i) o a e h _;unfold QM;dsimp only;rw[g];exact A.go _ (by rw[l];exact B.go)⟩
theorem HY(P:db K a e h (.ref p) h1)(g:h1[p]? =J (.inst cl fs))(l:fs.lookup n=J x)(A:db K b e h1 y h2)(l':Cf o x y h2=J (v,h3))(l2:rW (.ref p) n v h3=J h4)(B:oI K r e h4 Q):oI K (.cons (.aug (.attr a n) o b) r) e h Q:=by
 revert v x y o fs Q r h4 cl;ext K e h h1 h2 h3 a b n p;ext v x y o fs Q r h4 cl;exact⟨P.go _ ((Qw g l).mpr (A.go _ (by rw[l'];show PH _ _;rw[l2];exact B.go)))⟩
theorem Qd(P:db K a e h (.ref p) h1)(I:db K b e h1 (nv j) h2)(s:h2[p]? =J (.list xs))(g:xs[j]? =J x)(lj:j<1000000)(A:db K c e h2 y h3)(l':Cf o x y h3=J (v,h4))(l2:pZ (.ref p) (nv j) v h4=J h5)(B:oI K r e h5 Q):oI K (.cons (.aug (.sub a b) o c) r) e h Q:=by
 revert p v x y xs o Q r h4 h5;ext K e h h1 h2 h3 a b c j;ext p v x y xs o Q r h4 h5;exact⟨P.go _ (I.go _ ((Nr (io s) g lj).mpr (A.go _ (by rw[l'];show PH _ _;rw[l2];exact B.go))))⟩
theorem oO(A:db K a e h .none h1)(B:oI K r e h1 Q):oI K (.cons (.expr a) r) e h Q:=⟨A.go _ B.go⟩
theorem uy(A:db K a e h v h1)(B:Q (.ret v) e h1):oI K (.cons (.ret a) r) e h Q:=⟨A.go _ B⟩
theorem Zv(B:Q .brk e h):oI K (.cons .brk r) e h Q:=⟨B⟩
theorem uJ(A:db K c e h x h1)(l:tr x=J t)(B:t=b9->oI K sa e h1 (sw K r Q))(C:t=cj->oI K sb e h1 (sw K r Q)):oI K (.cons (.ite c sa sb) r) e h Q:=⟨A.go _ (by
 rw[l];exact⟨λe=>(B e).go,λe=>(C e).go⟩)⟩
theorem lv(A:db K c e h x h1)(l:tr x=J t)(B:t=b9->oI K sa e h1 (sw K r Q))(C:t=cj->oI K r e h1 Q):oI K (.cons (.ite c sa .nil) r) e h Q:=uJ A l B λe=>ld (C e)
theorem E2(M:K.aV)(A:db K it e h x h1)(l:Fm K h1 x=J k)(tk:IU tg k=b9)(N:Nat)(I:Nat->nw->H->Prop)(z:I 0 e h1)(step:∀j,j<N->∀e h,I j e h->∃v,oG K k h x j=J (J v)/\tM K tg v e h λe h=>uO K sa e h (o8 (I (j+1)) (sw K r Q)))(done:∀e h,I N e h->oG K k h x N=J .none/\oI K r e h Q):oI K (.cons (.each tg it sa) r) e h Q:=by
 revert N I;ext K e h h1 x Q r sa it k tg;exact⟨A.go _ (by
  rw[l];exact⟨tk,N+1,ID (f:=λv e h P=>tM K tg v e h λe h=>uO K sa e h P) (λv e h P P' m w=>yx M tg (λe h w=>tz M sa m w) w) N I step (λe h w=>⟨(done e h w).1,(done e h w).2.go⟩) N 0 e h1 (d6 N) z⟩)⟩
theorem Er(M:K.aV)(N:Nat)(I:Nat->nw->H->Prop)(z:I N e h)(step:∀m e h,I m e h->∃x h1 t,db K c e h x h1/\tr x=J t/\(t=b9->∃j,j<m/\oI K sa e h1 (o8 (I j) (sw K r Q)))/\(t=cj->oI K r e h1 Q)):oI K (.cons (.loop c sa) r) e h Q:=by
 revert N I;ext K e h c Q r sa;exact⟨N+1,DE (c:=λe h P=>ev K c e h λx h=>yo (tr x) λt=>P t h) (f:=λe h P=>uO K sa e h P) (λe h P P' m w=>jp M c (λv h w=>p0 (λt w=>m _ _ w) w) w) (λe h P P' m w=>tz M sa m w) I (λm e h w=>by
   obtain⟨x,h1,t,a1,a2,a3,a4⟩:=step m e h w;refine a1.go _ ?_;dsimp only;rw[a2];exact⟨λe1=>by obtain⟨j,l,z⟩:=a3 e1;exact⟨j,l,z.go⟩,λe1=>(a4 e1).go⟩) N N e h (da _) z⟩
variable{f:Nat}{n0:Nat}
theorem qT(q:G v h):qP n0 G (.ret v) e h:=.inl q
theorem C7(hc:o6 h.length h)(hv:sF h.length v)(q:G v h):qP h.length G (.ret v) e (h++b8):=.inr (.inl ⟨h,b8,rfl,da _,hc,hv,q⟩)
theorem u5(q:G .none h):qP n0 G .next e h:=.inl q
end
section
variable{d:Nat}{Q:V->H->Prop}{T:H}
theorem mk{K K':pN}(F:∀Q,(o6 T.length T->uO K' body e T (qP T.length Q))->K.call f vs T Q)(G:∀Q:V->H->Prop,Q v aK->o6 T.length T->oI K' body e T (qP T.length Q)):ii K f vs T v aK:=
 ⟨λQ q=>F Q λhc=>(G Q q hc).go⟩
theorem z5{s k:Nat}(hs:s<1000):ii (K0 (d+1)) 21 [nv s,nv k] T (nv (s*8+k)) T:=
 mk (λQ=>HU rfl) λQ q hc=>uy (qK (sr (r_loc rfl) ac (by lia) ⋯) (r_loc rfl)) (qT q)
theorem xI{p:Nat}:ii (K0 (d+1)) 28 [nv p] T (nv (p >>> 3)) T:=
 mk (λQ=>N3 rfl) λQ q hc=>uy (rF (r_loc rfl) ac) (qT q)
end
end
end Mine.Lake
local macro_rules (kind := «term∅») | s => Mine.Lake.mL s
namespace Mine.Lake
noncomputable section
def rI:Nat->Ss->Ss
 | n+1,.cons _ r=>rI n r
 | _,r=>r
def S3(sa F R:Nat)(x4 x5 x6 x7 x8 x9 bY x11 x12:Option V):nw:=
 [J (.con sa),J (.ref 1),J (nv F),J (nv R),x4,x5,x6,x7,x8,x9,bY,x11,x12,U,U,U,U,U,U,U,U,U,U,U,U,U,U,U,U,U,U,U,U,U,U,U,U]
def YF:Ss:=rI 2 GP.body
def YD:List Int:=(cn 7).map λi=>if i<PB.length then PB.getD i 0 else 0
def h20:H:=[.aT 0 7 1]++[.list (YD.map .int)]++[.tup [nv 3,nv 4]]++[.tup [nv 7,nv 3]]++[.list [.ref 2,.ref 3]]
def PM(F R:Nat):Prop:=oI (K0 23) YF (S3 KL F R U U U U U U U U U) h20 (qP 0 λv w=>v= .bool b9)
def cc:Bool:=@cu (PM 3 4) (eW _)
def F:Nat:=if cc=b9 then 7 else 3
def R:Nat:=if cc=b9 then 3 else 4
theorem KY{C:Nat->Nat->Bool->Prop}(h1:C 3 4 cj)(h2:C 7 3 b9):C F R cc:=by
 unfold F R;cases cc with
 | true=>exact h2
 | false=>exact h1
theorem Sw(h:PM F R):PM 3 4/\PM 7 3:=by
 have e:PM 3 4:=cM λn=>by
  have z:cc=cj:=@cD _ (eW _) n;unfold F R at h;rw[z] at h;exact n h
 have z:cc=b9:=@cC _ (eW _) e;refine⟨e,?_⟩;unfold F R at h;rw[z] at h;exact h
section
variable{K:pN}{e:nw}{h h1 h2 h3:H}{a b c:E}{i j n m p:Nat}{v x y z:V}{Q:QS}{r:Ss}{sa sb:Ss}
theorem J1(q:∀Q:V->H->Prop,tj (pD o (nv n) (nv m) h) Q=Q (nv k) h):Cf o (nv n) (nv m) h=J (nv k,h):=by
 ext h n m o k;have q:=(q (λv s=>v=nv k/\s=h)).mpr ⟨rfl,rfl⟩;show pD o (nv n) (nv m) h=_;cases w:pD o (nv n) (nv m) h with
 | none=>rw[w] at q;exact q.elim
 | some o=>obtain⟨v,s⟩:=o;rw[w] at q;obtain⟨q1,q2⟩:=(q:v=nv k/\s=h);rw[q1,q2]
theorem B3:Cf .add (nv n) (nv m) h=J (nv (n+m),h):=J1 λw=>V8
theorem Na:Cf .shr (nv n) (nv m) h=J (nv (n >>> m),h):=J1 λw=>SR
theorem r9:Cf .bor (nv n) (nv m) h=J (nv (n ||| m),h):=J1 λw=>Qt
theorem Ex:Cf .bxor (nv n) (nv m) h=J (nv (n ^^^ m),h):=J1 λw=>PR
theorem aaa(l:n<1000000000)(l':m<1000000000):Cf .mul (nv n) (nv m) h=J (nv (n*m),h):=J1 λw=>V3 l l'
theorem Z2(l:0<m)(l':m<1000000):Cf .div (nv n) (nv m) h=J (nv (n/m),h):=J1 λw=>RJ l l'
theorem Zj(l:m<=n):Cf .sub (nv n) (nv m) h=J (nv (n - m),h):=J1 λw=>Vx l
end
section
variable{d:Nat}{Q:V->H->Prop}{T:H}
theorem xN:ii (K0 (d+1)) 35 [nv p] T (nv (p &&& 7)) T:=
 mk (λQ=>NW rfl) λQ q hc=>uy (nb ∅ ac) (qT q)
def oT(o t s f:Nat):Nat:=t ||| o <<< 6 ||| f <<< 12 ||| s <<< 14
theorem r5(ho:o<64)(hs:s<4)(hp:s=1->2<=p)(hp':p<8):ii (K0 (d+1)) 42 [nv o,nv t,nv s,nv p] T (nv (oT o t s (if s=1 then p - 2 else 0))) T:=
 mk (λQ=>IW rfl) λQ q hc=>bs ac (lv (oQ ∅ bv) bm
  (λe1=>bs (oM ∅ bv (hp (cy e1))) (ld (uy (qJ (qJ (qJ ∅ (qu ∅ ac (by lia) ⋯)) (qu ∅ ac (by lia) ⋯)) (qu ∅ ac (by lia) ⋯))
   (qT (by have:=cy e1;rw[cG this] at q;exact q)))))
  λe1=>uy (qJ (qJ (qJ ∅ (qu ∅ ac (by lia) ⋯)) (qu ∅ ac ⋯ ⋯)) (qu ∅ ac (by lia) ⋯))
   (qT (by have:=cz e1;rw[cH this] at q;exact q)))
theorem uV:ii (K0 (d+1)) 49 [nv m] T (nv (m >>> 6 &&& 63)) T:=
 mk (λQ=>I2 rfl) λQ q hc=>uy (nb (rF ∅ ac) ac) (qT q)
theorem vm:ii (K0 (d+1)) 56 [nv m] T (nv (m &&& 63)) T:=
 mk (λQ=>Oc rfl) λQ q hc=>uy (nb ∅ ac) (qT q)
theorem sC:ii (K0 (d+1)) 63 [nv m] T (nv (m >>> 14 &&& 3)) T:=
 mk (λQ=>E3 rfl) λQ q hc=>uy (nb (rF ∅ ac) ac) (qT q)
theorem Ha(hm:m >>> 14 &&& 3=1):ii (K0 (d+1)) 70 [nv m] T (nv ((m >>> 12 &&& 3)+2)) T:=
 mk (λQ=>Ho rfl) λQ q hc=>lv (tP (nb (rF ∅ ac) ac) bv) bm (λe1=>cJ hm (cy e1))
  λe1=>uy (qK (nb (rF ∅ ac) ac) bv) (qT q)
theorem tW(hb:0<b):ii (K0 (d+1)) 77 [nv b] T (.bool (cu (b &&& (b - 1)≠0))) T:=
 mk (λQ=>CP rfl) λQ q hc=>uy (tP (nb ∅ (oM ∅ ac hb)) ac) (qT q)
end
section
variable{K:pN}{e:nw}{h h1 h2 h3:H}{a b c:E}{i j n m p:Nat}{v x y z:V}{Q:QS}{r:Ss}{sa sb:Ss}{xs ys:List V}
theorem vp(A:db K a e h (.ref p) h1)(g:h1[p]? =J (.list ys))(B:db K b e h1 v h2)(g2:h2[p]? =J (.list xs))(l:xs.length<1000):db K (.append a b) e h .none (h2.set p (.list (xs++[v]))):=⟨λQ q=>A.go _ ⟨Qg g,B.go _ (by rw[BO g2 l];exact q)⟩⟩
theorem zq:(T++[o]).set T.length o'=T++[o']:=by rw[eA _ _ (da _),eE];rfl
theorem bn{T:H}:(T++[o])[T.length]? =J o:=um T o
end
def o0:Nat->Nat->Nat->List Nat
 | 0,_,_=>[]
 | n+1,c,s=>if c%2=1 then s::o0 n (c/2) (s+1) else o0 n (c/2) (s+1)
def oY(b:Nat):List Nat:=o0 64 b 0
theorem A6:∀n s,o0 n 0 s=[]
 | 0,_=>rfl
 | n+1,s=>by simp [o0,A6 n]
theorem OD{n c s:Nat}(h:c%16=0):o0 (n+4) c s=o0 n (c/16) (s+4):=by
 ext n c s;have h1:c%2=0:=by lia
 have h2:c/2%2=0:=by lia
 have h3:c/2/2%2=0:=by lia
 have h4:c/2/2/2%2=0:=by lia
 have h5:c/2/2/2/2=c/16:=by lia
 simp [o0,h1,h2,h3,h4,h5]
theorem YO(c:Nat):c &&& 15=c%16:=gH c 4
theorem WN(c:Nat):c &&& 1=c%2:=gH c 1
theorem aaC(c:Nat):c >>> 4=c/16:=dC c 4
theorem W5(c:Nat):c >>> 1=c/2:=dC c 1
section
variable{d:Nat}{Q:V->H->Prop}{T:H}
theorem OS(hb:0<b)(hb':b<2 ^ 64):ii (K0 (d+1)) 84 [nv b] T (nv (mZ b)) T:=by
 ext d T b;exact mk (λQ=>O8 rfl) λQ q hc=>lv (oQ ∅ ac) bm (λe1=>cJ (cy e1) (fh hb)) λw=>bs ac
   (Er (lw _) 6 (λm e h=>∃i,i+m=6/\T=h/\e=[J (nv b),J (nv (2 ^ i)),U,U]) ⟨0,rfl,rfl,rfl⟩ λm e h z=>by
    obtain⟨i,hi,rfl,rfl⟩:=z;refine⟨_,_,_,rF ∅ ∅,oH,λe1=>?_,λe1=>?_⟩
    .have hne:=cy e1;have:i≠6:=λt=>by
      subst t;exact hne (by rw[dC];exact hO hb')
     have hp:2 ^ i<=2 ^ 6:=eG ⋯ (by lia);refine⟨m - 1,by lia,oN rfl ac (aaa (by lia) ⋯) (om ⟨i+1,by lia,rfl,?_⟩)⟩;rw[gT];rfl
    .have h0:b >>> 2 ^ i=0:=cM λt=>by rw[cC t] at e1;cases e1
     have hlt:b<2 ^ 2 ^ i:=by
      rw[dC] at h0;rcases kY.mp h0 with t | t
      .exact cJ t (fh (gj _))
      .exact t
     refine bs ac (Er (lw _) i (λm e h=>∃s c,m<=6/\T=h/\e=[J (nv c),J (nv (2 ^ m)),J (nv s),U]/\c=b >>> s/\0<c/\c<2 ^ 2 ^ m) ⟨0,b,by lia,rfl,rfl,rfl,hb,hlt⟩ λm e h z=>?_);obtain⟨s,c,hm,rfl,rfl,hc1,hc2,hc3⟩:=z;refine⟨_,_,_,Jh ∅ ac,bm,λe1=>?_,λe1=>?_⟩
     .have hm1:m≠0:=λt=>by subst t;exact cJ (cy e1) ⋯
      obtain⟨k,rfl⟩:=gJ hm1;have e2:2 ^ (k+1)/2=2 ^ k:=by rw[gT];lia
      have e3:2 ^ 2 ^ (k+1)=2 ^ 2 ^ k*2 ^ 2 ^ k:=by rw[<- Nat.pow_add];congr 1;rw[gT];lia
      refine⟨k,by lia,oN rfl ac (Z2 ⋯ ⋯) (lv (rF ∅ ∅) oH (λe4=>?_) λe4=>om ?_)⟩
      .have hne:c >>> (2 ^ (k+1)/2)≠0:=cy e4;refine oN rfl ∅ Na (oN rfl ∅ B3 (ld (om ⟨s+2 ^ k,c >>> 2 ^ k,by lia,rfl,by rw[<- e2];rfl,by rw[hc1,Nat.shiftRight_add],?_,?_⟩)))
       .rw[e2] at hne;exact ei hne
       .rw[dC];exact hB (by rw[<- e3];exact hc3)
      .have h0:c >>> (2 ^ (k+1)/2)=0:=cM λt=>by rw[cC t] at e4;cases e4
       rw[e2,dC] at h0;refine⟨s,c,by lia,rfl,by rw[<- e2];rfl,hc1,hc2,?_⟩;rcases kY.mp h0 with t | t
       .exact cJ t (fh (gj _))
       .exact t
     .have hm0:m=0:=by
       cases m with
       | zero=>rfl
       | succ k=>
        have:1<2 ^ (k+1):=Nat.one_lt_two_pow (by lia);rw[cC this] at e1;cases e1
      subst hm0;have hl:mZ b=s:=by
       have c1:c=1:=by
        have:c<2:=hc3;lia
       rw[c1,dC] at hc1;rw[Nat.log2_eq_iff (fh hb)];have p:=gj s;have dm:=gf b (2 ^ s);have ml:=mV b p;rw[<- hc1] at dm;rw[gT];lia
      exact uy ∅ (qT (hl▸q)))
theorem JM(hb:0<oq b (b - 1))(hb':b<2 ^ 64):ii (K0 (d+2)) 91 [nv b] T (nv (mZ (oq b (b - 1)))) T:=
 mk (λQ=>QI rfl) λQ q hc=>uy (bi (be (YE ∅ ∅) f8) (OS hb (ar (eO _ _) hb'))) (qT q)
theorem qe(hb:b<2 ^ 64):ii (K0 (d+1)) 98 [nv b] T (.ref T.length) (T++[.list ((oY b).map nv)]):=by
 ext d T b;exact mk (λQ=>GU rfl) λQ q hc=>bs (qp f8 ⋯) (bs ac
   (Er (lw _) b (λm e h=>∃c s n xs,c<=m/\c<2 ^ n/\T++[.list (xs.map nv)]=h/\e=[J (nv c),J (.ref T.length),J (nv s),U]/\xs++o0 n c s=oY b/\xs.length+n<=64)
    ⟨b,0,64,[],da _,hb,rfl,rfl,rfl,by decide⟩ λm0 e h z=>by
    refine bc λkk=>?_;obtain⟨m,s,n,xs,hm0,hm,rfl,rfl,hx,hn⟩:=z;refine kk ?_;clear kk;refine⟨_,_,_,r_loc rfl,oH,λe1=>?_,λe1=>?_⟩
    .have hne:m≠0:=cy e1;refine⟨m/2,by lia,Er (lw _) m (λk e h=>∃s n,0<k/\k<=m/\k<2 ^ n/\T++[.list (xs.map nv)]=h/\e=[J (nv k),J (.ref T.length),J (nv s),U]/\xs++o0 n k s=oY b/\xs.length+n<=64)
      ⟨s,n,ei hne,da _,hm,rfl,rfl,hx,hn⟩ λk e h z=>?_⟩
     refine bc λkk=>?_;obtain⟨s,n,hk0,hk,hkn,rfl,rfl,hx,hn⟩:=z;refine kk ?_;clear kk;refine⟨_,_,_,ux (nb ∅ ac) oH,bm,λe2=>?_,λe2=>?_⟩
     .have h15:k%16=0:=by
       rw[<- YO];refine cM λt=>?_;rw[show cu (k &&& 15≠0)=b9 from cC t] at e2;cases e2
      have n4:∃n',n=n'+4:=by
       refine⟨n - 4,?_⟩;have:¬n<4:=λt=>by
        have:2 ^ n<=2 ^ 4:=eG ⋯ (by lia);lia
       lia
      obtain⟨n',rfl⟩:=n4;refine⟨k/16,by lia,oN rfl ac Na (oN rfl ac B3 (om ⟨s+4,n',by lia,by lia,?_,rfl,?_,?_,by lia⟩))⟩
      .rw[Nat.pow_add] at hkn;lia
      .rw[aaC];rfl
      .rw[<- hx,OD h15]
     .have n1:∃n',n=n'+1:=by
       cases n with
       | zero=>exact cJ hkn (by simp;lia)
       | succ n=>exact⟨n,rfl⟩
      obtain⟨n',rfl⟩:=n1;have hk2:k/2<2 ^ n':=by rw[gT] at hkn;lia
      refine uJ (nb ∅ ac) oH (λe3=>?_) (λe3=>?_)
      .have o:k%2=1:=by
        have:=cy e3;rw[WN] at this;lia
       have hl:xs.length<64:=by lia
       refine oO (vp ∅ bn ∅ bn (by simp;lia)) (ld (oN rfl ac Na (oN rfl ac B3 (om ⟨k/2,s+1,n',xs++[s],by lia,hk2,?_,?_,?_,?_⟩))))
       .rw[zq,dR];rfl
       .rw[W5];rfl
       .rw[<- hx,o0,cG o,aa];rfl
       .rw[a6];simp;lia
      .have o:¬k%2=1:=λt=>by
        rw[show cu (k &&& 1≠0)=b9 from cC (by rw[WN,t];decide)] at e3;cases e3
       refine ld (oN rfl ac Na (oN rfl ac B3 (om ⟨k/2,s+1,n',xs,by lia,hk2,rfl,?_,?_,by lia⟩)))
       .rw[W5];rfl
       .rw[<- hx,o0,cH o]
    .have h0:m=0:=cM λt=>by rw[cC t] at e1;cases e1
     subst h0;rw[A6,cP] at hx;exact uy ∅ (qT (hx▸q))))
end
structure pf where
 files:Nat
 ranks:Nat
 cast:Bool
 fm:List Nat
 rm:List Nat
 rays:List (List Nat)
 king:List Nat
 knight:List Nat
 pawn:List (List Nat)
 castles:List (Option (List Nat))
 lost:List Nat
def pf.size(G:pf):Nat:=G.files*G.ranks
def pf.av(G:pf):Nat:=(1 <<< G.size) - 1
def pf.ray(G:pf)(d s:Nat):Nat:=(G.rays.getD d []).getD s 0
def pf.pw(G:pf)(d s:Nat):Nat:=(G.pawn.getD d []).getD s 0
structure GH where
 fm:Nat
 rm:Nat
 rays:Nat
 king:Nat
 knight:Nat
 pawn:Nat
 castles:Nat
 lost:Nat
 ray:List Nat
 pw:List Nat
 cs:List V
structure BQ (G:pf):Prop where
 sz:G.size<=21
 fl:G.fm.length=G.files
 rl:G.rm.length=G.ranks
 f3:3<=G.files
 f7:G.files<=7
 r3:3<=G.ranks
 r8:G.ranks<=8
 ra:G.rays.length=8
 rs:∀l∈G.rays,l.length=G.size
 kl:G.king.length=G.size
 nl:G.knight.length=G.size
 pl:G.pawn.length=2
 ps:∀l∈G.pawn,l.length=G.size
 cl:G.castles.length=4
 cv:∀t,J t∈G.castles->(∀x∈t,x<G.size)/\t.getD 0 0≠t.getD 2 0
 ll:G.lost.length=G.size
structure pT (T:H) (g:Nat) (h:GH) (G:pf) (n:Nat):Prop where
 inst:T[g]? =J (.inst 0 [(0,nv G.files),(1,nv G.ranks),(2,nv G.size),(3,nv G.av),(4,.bool cj),(5,.bool G.cast),(6,.ref h.fm),(7,.ref h.rm),(8,.ref h.rays),(9,.ref h.king),(10,.ref h.knight),(11,.ref h.pawn),(12,.ref h.castles),(13,.ref h.lost)])
 fm:T[h.fm]? =J (.list (G.fm.map nv))
 rm:T[h.rm]? =J (.list (G.rm.map nv))
 rays:T[h.rays]? =J (.list (h.ray.map .ref))
 ray:∀(d p:Nat) (l:List Nat),h.ray[d]? =J p->G.rays[d]? =J l->T[p]? =J (.list (l.map nv))
 king:T[h.king]? =J (.list (G.king.map nv))
 knight:T[h.knight]? =J (.list (G.knight.map nv))
 pawn:T[h.pawn]? =J (.list (h.pw.map .ref))
 pw:∀(d p:Nat) (l:List Nat),h.pw[d]? =J p->G.pawn[d]? =J l->T[p]? =J (.list (l.map nv))
 castles:T[h.castles]? =J (.list h.cs)
 cs0:∀i:Nat,G.castles[i]? =J U->h.cs[i]? =J .none
 cs:∀(i:Nat) (t:List Nat),G.castles[i]? =J (J t)->t.length=4/\∃p,h.cs[i]? =J (.ref p)/\p<n/\T[p]? =J (.tup (t.map nv))
 lost:T[h.lost]? =J (.list (G.lost.map nv))
 ok:BQ G
 hr:h.ray.length=8
 hp:h.pw.length=2
 low:g<n/\h.fm<n/\h.rm<n/\h.rays<n/\h.king<n/\h.knight<n/\h.pawn<n/\h.castles<n/\h.lost<n/\(∀p∈h.ray,p<n)/\(∀p∈h.pw,p<n)
theorem pT.same(A:pT T g h G n)(e:∀i,i<n->aK[i]? =T[i]?):pT aK g h G n:=by
 ext T aK g h G n;obtain⟨l1,l2,l3,l4,l5,l6,l7,l8,l9,l10,l11⟩:=A.low;exact⟨(e _ l1).trans A.inst,(e _ l2).trans A.fm,(e _ l3).trans A.rm,(e _ l4).trans A.rays,λd p l a b=>(e _ (l10 p (dD a))).trans (A.ray d p l a b),(e _ l5).trans A.king,(e _ l6).trans A.knight,(e _ l7).trans A.pawn,
  λd p l a b=>(e _ (l11 p (dD a))).trans (A.pw d p l a b),(e _ l8).trans A.castles,A.cs0,λi t q=>by
   obtain⟨c0,p,c1,c2,c3⟩:=A.cs i t q;exact⟨c0,p,c1,c2,(e _ c2).trans c3⟩,(e _ l9).trans A.lost,A.ok,A.hr,A.hp,A.low⟩
theorem pT.app(A:pT T g h G n)(l:n<=T.length)(t:H):pT (T++t) g h G n:=
 A.same λi hi=>ae (cQ hi l)
theorem v9{l:List Nat}(h:i<l.length):(l.map nv)[i]? =J (nv (l.getD i 0)):=by
 rw[cY,a7 h,ba,a7 h];rfl
theorem Ag{l:List Nat}{i p:Nat}(h:l[i]? =J p):(l.map V.ref)[i]? =J (.ref p):=by
 rw[cY,h];rfl
section
variable{K:pN}{e:nw}{T h h1 h2 h3:H}{a b c:E}{i j n m p:Nat}{v x y z:V}{g n:Nat}{gh:GH}{G:pf}
theorem pq{G:V->H->Prop}(A:db K a e h v h1)(q:G v h1):oI K (.cons (.ret a) r) e h (qP n0 G):=⟨A.go _ (.inl q)⟩
theorem pP{G:V->H->Prop}(A:db K a e h v h1)(q:G v h1):oI K (.cons (.ret a) r) e h (sw K r' (qP n0 G)):=⟨A.go _ (.inl q)⟩
theorem ZB{G:V->H->Prop}(A:db K a e h v h1)(q:G v h1):oI K (.cons (.ret a) r) e h (sw K r' (sw K r'' (qP n0 G))):=⟨A.go _ (.inl q)⟩
theorem Rv{G:V->H->Prop}(A:db K a e h v (h3++t))(hc:o6 h3.length h3)(hv:sF h3.length v)(q:G v h3):oI K (.cons (.ret a) r) e h (qP h3.length G):=⟨A.go _ (C7 (e:=e) hc hv q)⟩
theorem oE(k:Nat)(g:h[p]? =J (.inst cl fs))(A:db K a e h (.ref p) h)(l:fs.lookup k=J v):db K (.attr a k) e h v h:=Wn A g l
theorem tT{l:List Nat}(g:h[p]? =J (.list (l.map nv)))(A:db K a e h (.ref p) h)(B:db K b e h (nv i) h)(hl:i<l.length)(hm:l.length<1000):db K (.sub a b) e h (nv (l.getD i 0)) h:=
 pz A B (io g) (v9 hl) (by lia)
theorem Gi{s:Nat}(A:pT h g gh G m)(B:db K a e h (.ref g) h)(C:db K b e h (nv i) h)(D:db K c e h (nv s) h)(hi:i<8)(hs:s<G.size):db K (.sub (.sub (.attr a 8) b) c) e h (nv (G.ray i s)) h:=by
 have q1:i<gh.ray.length:=by rw[A.hr];exact hi
 have q2:i<G.rays.length:=by rw[A.ok.ra];exact hi
 have e2:=A.ok.rs _ (du q2);have sz:=A.ok.sz;have w:=A.ray i _ _ (a7 q1) (a7 q2);have z:=tT w (pz (oE 8 A.inst B rfl) C (io A.rays) (Ag (a7 q1)) (by lia)) D (by lia) (by lia);have ee:(G.rays[i]).getD s 0=G.ray i s:=by
  unfold pf.ray;rw[ba (l:=G.rays),a7 q2];rfl
 rw[<- ee];exact z
theorem YJ{s:Nat}(A:pT h g gh G m)(B:db K a e h (.ref g) h)(C:db K b e h (nv i) h)(D:db K c e h (nv s) h)(hi:i<2)(hs:s<G.size):db K (.sub (.sub (.attr a 11) b) c) e h (nv (G.pw i s)) h:=by
 have q1:i<gh.pw.length:=by rw[A.hp];exact hi
 have q2:i<G.pawn.length:=by rw[A.ok.pl];exact hi
 have e2:=A.ok.ps _ (du q2);have sz:=A.ok.sz;have w:=A.pw i _ _ (a7 q1) (a7 q2);have z:=tT w (pz (oE 11 A.inst B rfl) C (io A.pawn) (Ag (a7 q1)) (by lia)) D (by lia) (by lia);have ee:(G.pawn[i]).getD s 0=G.pw i s:=by
  unfold pf.pw;rw[ba (l:=G.pawn),a7 q2];rfl
 rw[<- ee];exact z
end
def Cn(con:Nat->Option O):Prop:=∀a p,yD a=J p->con a=J (Xs p)
theorem TB(h:yD sa=U):Cn (z7 sa ns):=λa p q=>by
 unfold z7;rw[cH (λe=>by subst e;rw[h] at q;cases q),q];rfl
def We(d:Nat):Int:=([1,0,-1,0,1,-1,-1,1]:List Int).getD d 0
def Cz(d:Nat):Bool:=cu (0<We d)||decide (d=1)
theorem C0:Cn (K0 d).con:=by
 rw[L9];exact TB QZ
theorem Pt(h:d<8):([.int 1,.int 0,.int (-1),.int 0,.int 1,.int (-1),.int (-1),.int 1]:List V)[d]? =J (.int (We d)):=by
 exact lt8 h rfl rfl rfl rfl rfl rfl rfl rfl
def ZL(b:Nat):Nat:=
 let b:=b ||| b >>> 1
 let b:=b ||| b >>> 2
 let b:=b ||| b >>> 4
 let b:=b ||| b >>> 8
 let b:=b ||| b >>> 16
 b ||| b >>> 32
def tE(g:Bool)(R occ:Nat):Nat:=if R &&& occ=0 then R else if g then R &&& ((R &&& occ) ^^^ ((R &&& occ) - 1)) else oq R (ZL ((R &&& occ) >>> 1))
section
variable{d:Nat}{Q:V->H->Prop}{T:H}{g n:Nat}{gh:GH}{G:pf}
theorem G8(hk:k<8):ii (K0 (d+1)) 188 [nv k] T (.bool (Cz k)) T:=
 mk (λQ=>zh rfl) λQ q hc=>pq (sQ (pF (pz GI ∅ (JS (o:=(cj,[])) (C0 160 _ rfl)) (Pt hk) (by lia)) qI rfl) (oQ ∅ ac)) q
theorem yh(A:pT T g gh G n)(hk:k<8)(hs:s<G.size):ii (K0 (d+2)) 244 [.ref g,nv k,nv s,nv o] T (nv (tE (Cz k) (G.ray k s) o)) T:=by
 ext d T g n gh G k s o;exact mk (λQ=>Fs rfl) λQ q hc=>bs (Gi A ∅ ∅ ∅ hk hs) (bs (nb ∅ ∅) (lv (oQ ∅ ac) bm
   (λe1=>pP ∅ (by rw[tE,cG (cy e1)] at q;exact q))
   λe1=>lv (bi (lz rfl) (G8 hk)) bm
    (λe2=>pP (nb ∅ (zb ∅ (oM ∅ ac (ei (cz e1))))) (by rw[tE,cH (cz e1),cG e2] at q;exact q))
    λe2=>bs (rF ∅ ac) (oN rfl (rF ∅ ac) r9 (oN rfl (rF ∅ ac) r9 (oN rfl (rF ∅ ac) r9 (oN rfl (rF ∅ ac) r9 (oN rfl (rF ∅ ac) r9
     (oN rfl (rF ∅ ac) r9 (pq (xy ∅ ∅) (by rw[tE,cH (cz e1),cH (by rw[e2];decide)] at q;exact q))))))))))
end
section
variable{K:pN}{e:nw}{h h1 h2 h3:H}{a b c:E}{i j n m p:Nat}{v x y z:V}{Q:QS}{r:Ss}{sa sb:Ss}{xs ys:List V}{es:Es}
theorem rC(l:n<1000000):yP (n:Int)=b9:=by
 unfold yP
 (rewrite [ax,cA,cA];try with_reducible rfl)
 lia
theorem qd(A:F7 K es e h [nv n] h1)(l:n<1000000):db K (.range i es) e h (.ref h1.length) (h1++[.aT 0 n 1]):=⟨λQ q=>A.go _ (by
 show tj (te [.int (n:Int)] h1) Q
 (rewrite [Uj,cG (rC l)];try with_reducible rfl)
 exact q)⟩
theorem Qz(A:F7 K es e h [nv n,nv m] h1)(l:n<1000000)(l':m<1000000):db K (.range i es) e h (.ref h1.length) (h1++[.aT n m 1]):=⟨λQ q=>A.go _ (by
 show tj (te [.int (n:Int),.int (m:Int)] h1) Q
 (rewrite [UH,cG (dc.mpr ⟨rC l,rC l'⟩)];try with_reducible rfl)
 exact q)⟩
theorem tN(l:n+N=m):oG K (.aT (n:Int) (m:Int) 1) h x j=J (if j<N then J (nv (n+j)) else .none):=by
 have e1:pI (n:Int) (m:Int) 1=N:=by
  unfold pI;rw[cG (by rfl)];lia
 unfold oG;dsimp only;rw[e1];have e2:(n:Int)+(j:Int)*1=((n+j:Nat):Int):=by lia
 rw[e2];rfl
theorem rV(M:K.aV)(A:db K it e h (.ref p) h1)(g:h1[p]? =J (.aT (n:Int) (m:Int) 1))(l1:n<=m)(l2:m<1000000)(I:Nat->nw->H->Prop)(z:I n e h1)
  (step:∀j,n<=j->j<m->∀e h,I j e h->oI K sa (e.set t (J (nv j))) h (o8 (I (j+1)) (sw K r Q))) (done:∀e h,I m e h->oI K r e h Q):oI K (.cons (.each (.loc t) it sa) r) e h Q:=
 E2 (k:=.aT (n:Int) (m:Int) 1) M A (by simp [Fm,tS,g,rC l2,rC (n:=n) (by lia)]) rfl (m - n) (λj e h=>I (n+j) e h) z
  (λj hj e h z=>⟨nv (n+j),by rw[tN (N:=m - n) (by lia),cG hj],(step (n+j) (by lia) (by lia) e h z).go⟩)
  λe h z=>⟨by rw[tN (N:=m - n) (by lia),cH (eZ _)],done e h (by rw[show n+(m - n)=m by lia] at z;exact z)⟩
theorem WP(M:K.aV)(A:db K it e h (.ref p) h1)(g:h1[p]? =J (.list xs))(I:Nat->nw->H->Prop)(z:I 0 e h1)(keep:∀j e h,I j e h->h[p]? =J (.list xs))(tk:IU t .list=b9)
  (step:∀j v,xs[j]? =J v->∀e h,I j e h->tM K t v e h λe h=>uO K sa e h (o8 (I (j+1)) (sw K r Q))) (done:∀e h,I xs.length e h->oI K r e h Q):oI K (.cons (.each t it sa) r) e h Q:=
 E2 (k:=.list) M A (by simp [Fm,tS,g]) tk xs.length I z
  (λj hj e h z=>⟨xs[j],by simp [oG,tS,keep j e h z,hj],step j _ (a7 hj) e h z⟩)
  λe h z=>⟨by simp [oG,tS,keep _ e h z],done e h z⟩
end
def Vn(f:Nat->Nat)(lo:Nat):Nat->Nat
 | 0=>0
 | n+1=>Vn f lo n ||| f (lo+n)
def sy(G:pf)(s o:Nat):Nat:=Vn (λd=>tE (Cz d) (G.ray d s) o) 0 4
def tG(G:pf)(s o:Nat):Nat:=Vn (λd=>tE (Cz d) (G.ray d s) o) 4 4
def uq(G:pf)(k s o:Nat):Nat:=if k=3 then tG G s o else if k=4 then sy G s o else if k=5 then sy G s o ||| tG G s o else 0
def sA(G:pf)(c k s o:Nat):Nat:=if k=1 then G.pw c s else if k=2 then G.knight.getD s 0 else if k=6 then G.king.getD s 0 else uq G k s o
section
variable{d:Nat}{Q:V->H->Prop}{T:H}{g n:Nat}{gh:GH}{G:pf}
theorem q7(A:pT T g gh G n)(hn:n<=T.length)(hs:s<G.size):ii (K0 (d+3)) 251 [.ref g,nv s,nv o] T (nv (sy G s o)) T:=by
 ext d T g n gh G s o;exact mk (λQ=>Eb rfl) λQ q hc=>bs ac (rV (n:=0) (m:=4) (lw _) (qd (be ac f8) ⋯) bn ⋯ ⋯
   (λj e h=>T++[.aT 0 4 1]=h/\∃x,e=[J (.ref g),J (nv s),J (nv o),J (nv (Vn (λd=>tE (Cz d) (G.ray d s) o) 0 j)),x,U,U,U]) ⟨rfl,U,rfl⟩
   (λj w hj e h z=>by
    obtain⟨rfl,x,rfl⟩:=z;refine oN rfl (bi (lc rfl (lc rfl (lc rfl (lz rfl)))) (yh (A.app hn _) (by lia) hs)) r9 (om ⟨rfl,J (nv j),?_⟩);rw[Vn,d6];rfl)
   λe h z=>by
    obtain⟨rfl,x,rfl⟩:=z;exact Rv ∅ hc trivial q)
theorem qE(A:pT T g gh G n)(hn:n<=T.length)(hs:s<G.size):ii (K0 (d+3)) 258 [.ref g,nv s,nv o] T (nv (tG G s o)) T:=
 mk (λQ=>Bb rfl) λQ q hc=>bs ac (rV (n:=4) (m:=8) (lw _) (Qz (be ac (be ac f8)) ⋯ ⋯) bn ⋯ ⋯
  (λj e h=>T++[.aT 4 8 1]=h/\∃x,e=[J (.ref g),J (nv s),J (nv o),J (nv (Vn (λd=>tE (Cz d) (G.ray d s) o) 4 (j - 4))),x,U,U,U]) ⟨rfl,U,rfl⟩
  (λj h4 hj e h z=>by
   obtain⟨rfl,x,rfl⟩:=z;refine oN rfl (bi (lc rfl (lc rfl (lc rfl (lz rfl)))) (yh (A.app hn _) hj hs)) r9 (om ⟨rfl,J (nv j),?_⟩);obtain⟨k,rfl⟩:=fP h4;rw[show 4+k+1 - 4=(4+k - 4)+1 from Nat.succ_sub (di 4 k),Vn,show 4+(4+k - 4)=4+k from gZ (di 4 k)];rfl)
  λe h z=>by
   obtain⟨rfl,x,rfl⟩:=z;exact Rv ∅ hc trivial q)
theorem Co(A:pT T g gh G n)(hn:n<=T.length)(hs:s<G.size):ii (K0 (d+4)) 265 [.ref g,nv s,nv o] T (nv (sy G s o ||| tG G s o)) T:=
 mk (λQ=>Cx rfl) λQ q hc=>pq (qJ (bi (lc rfl (lc rfl (lz rfl))) (q7 A hn hs)) (bi (lc rfl (lc rfl (lz rfl))) (qE A hn hs))) q
theorem Bp(A:pT T g gh G n)(hn:n<=T.length)(hs:s<G.size):ii (K0 (d+5)) 272 [.ref g,nv k,nv s,nv o] T (nv (uq G k s o)) T:=by
 ext d T g n gh G k s o;exact mk (λQ=>BD rfl) λQ q hc=>lv (oQ ∅ bv) bm (λe1=>pP (bi (lc rfl (lc rfl (lz rfl))) (qE A hn hs)) (by rw[uq,cG (cy e1)] at q;exact q))
   λe1=>lv (oQ ∅ bv) bm (λe2=>pP (bi (lc rfl (lc rfl (lz rfl))) (q7 A hn hs)) (by rw[uq,cH (cz e1),cG (cy e2)] at q;exact q))
   λe2=>lv (oQ ∅ bv) bm (λe3=>pP (bi (lc rfl (lc rfl (lz rfl))) (Co A hn hs)) (by rw[uq,cH (cz e1),cH (cz e2),cG (cy e3)] at q;exact q))
   λe3=>pq ac (by rw[uq,cH (cz e1),cH (cz e2),cH (cz e3)] at q;exact q)
theorem Ch(A:pT T g gh G n)(hn:n<=T.length)(hc:c<2)(hs:s<G.size):ii (K0 (d+6)) 279 [.ref g,nv c,nv k,nv s,nv o] T (nv (sA G c k s o)) T:=by
 ext d T g n gh G c k s o;exact have sz:=A.ok.sz
  have kl:=A.ok.kl
  have nl:=A.ok.nl
  mk (λQ=>Cs rfl) λQ q w=>lv (oQ ∅ bv) bm (λe1=>pP (YJ A ∅ ∅ ∅ hc hs) (by rw[sA,cG (cy e1)] at q;exact q))
   λe1=>lv (oQ ∅ bv) bm (λe2=>pP (tT A.knight (oE 10 A.inst ∅ rfl) ∅ (by lia) (by lia)) (by rw[sA,cH (cz e1),cG (cy e2)] at q;exact q))
   λe2=>lv (oQ ∅ bv) bm (λe3=>pP (tT A.king (oE 9 A.inst ∅ rfl) ∅ (by lia) (by lia)) (by rw[sA,cH (cz e1),cH (cz e2),cG (cy e3)] at q;exact q))
   λe3=>pq (bi (lc rfl (lc rfl (lc rfl (lz rfl)))) (Bp A hn hs)) (by rw[sA,cH (cz e1),cH (cz e2),cH (cz e3)] at q;exact q)
end
section
variable{K:pN}{e:nw}{h h1 h3:H}{a:E}{v:V}{G:V->H->Prop}{r r1 r2:Ss}{n0:Nat}{t:H}{I:nw->H->Prop}
theorem aa2(A:db K a e h v (h3++t))(hc:o6 h3.length h3)(hv:sF h3.length v)(q:G v h3):oI K (.cons (.ret a) r) e h (sw K r1 (o8 I (sw K r2 (qP h3.length G)))):=⟨A.go _ (C7 (e:=e) hc hv q)⟩
end
def Cj(G:pf)(a b:Nat):Nat->Nat->Nat
 | 0,_=>8
 | n+1,d=>if(G.ray d a >>> b) &&& 1≠0 then d else Cj G a b n (d+1)
def y6(G:pf)(a b:Nat):Nat:=Cj G a b 8 0
def Oh(G:pf)(a b:Nat):Nat:=if y6 G a b<8 then G.ray (y6 G a b) a &&& G.ray (y6 G a b ^^^ 2) b else 0
def MQ(G:pf)(a b:Nat):Nat:=if y6 G a b<8 then G.ray (y6 G a b) a ||| G.ray (y6 G a b ^^^ 2) a ||| 1 <<< a else 0
def OW(G:pf)(a b c:Nat):Bool:=cu ((MQ G a b >>> c) &&& 1=1)
theorem Zu(h:d<8):d ^^^ 2<8:=Nat.xor_lt_two_pow (n:=3) h ⋯
section
variable{d:Nat}{Q:V->H->Prop}{T:H}{g n:Nat}{gh:GH}{G:pf}
theorem B1(A:pT T g gh G n)(hn:n<=T.length)(ha:a<G.size):ii (K0 (d+1)) 105 [.ref g,nv a,nv b] T (if y6 G a b<8 then nv (y6 G a b) else .int (-1)) T:=by
 ext d T g n gh G a b;exact mk (λQ=>IN rfl) λQ q hc=>rV (n:=0) (m:=8) (lw _) (qd (be ac f8) ⋯) bn ⋯ ⋯
   (λj e h=>T++[.aT 0 8 1]=h/\Cj G a b (8 - j) j=y6 G a b/\∃x,e=[J (.ref g),J (nv a),J (nv b),x,U,U]) ⟨rfl,rfl,U,rfl⟩
   (λj w hj e h z=>by
    obtain⟨rfl,hd,x,rfl⟩:=z;rw[show 8 - j=(8 - (j+1))+1 from VN (by assumption),Cj] at hd;refine lv (nb (rF (Gi (A.app hn _) ∅ ∅ ∅ hj ha) ∅) ac) oH (λe1=>?_) λe1=>om ⟨rfl,?_,J (nv j),rfl⟩
    .rw[cG (cy e1)] at hd;rw[<- hd,cG hj] at q;exact aa2 ∅ hc trivial q
    .rw[cH (cz e1)] at hd;exact hd)
   λe h z=>by
    obtain⟨rfl,hd,x,rfl⟩:=z;have:y6 G a b=8:=hd.symm;rw[this,cH ⋯] at q;exact Rv (zl qI) hc trivial q
theorem F5(A:pT T g gh G n)(hn:n<=T.length)(ha:a<G.size)(hb:b<G.size):ii (K0 (d+2)) 112 [.ref g,nv a,nv b] T (nv (Oh G a b)) T:=
 mk (λQ=>NZ rfl) λQ q hc=>by
  have c:=B1 (d:=d) A hn (a:=a) (b:=b) ha;unfold Oh at q;by_cases h:y6 G a b<8
  .rw[cG h] at c q;exact bs (bi (lc rfl (lc rfl (lz rfl))) c) (lv (Oj ∅ ac) bm (λe=>cJ (cy e) (fE _)) λw=>
    pq (nb (Gi A ∅ ∅ ∅ h ha) (Gi A ∅ (zb ∅ ac) ∅ (Zu h) hb)) q)
  .rw[cH h] at c q;exact bs (bi (lc rfl (lc rfl (lz rfl))) c) (lv (t:=b9) (pF ∅ qI rfl) rfl (λw=>pP ac q) λe=>by cases e)
theorem W4(A:pT T g gh G n)(hn:n<=T.length)(ha:a<G.size)(hb:b<G.size):ii (K0 (d+2)) 119 [.ref g,nv a,nv b] T (nv (MQ G a b)) T:=by
 ext d T g n gh G a b;exact have sz:=A.ok.sz
  mk (λQ=>Yo rfl) λQ q hc=>by
   have c:=B1 (d:=d) A hn (a:=a) (b:=b) ha;unfold MQ at q;by_cases h:y6 G a b<8
   .rw[cG h] at c q;exact bs (bi (lc rfl (lc rfl (lz rfl))) c) (lv (Oj ∅ ac) bm (λe=>cJ (cy e) (fE _)) λw=>
     pq (qJ (qJ (Gi A ∅ ∅ ∅ h ha) (Gi A ∅ (zb ∅ ac) ∅ (Zu h) ha)) (qu ac ∅ ⋯ (by lia))) q)
   .rw[cH h] at c q;exact bs (bi (lc rfl (lc rfl (lz rfl))) c) (lv (t:=b9) (pF ∅ qI rfl) rfl (λw=>pP ac q) λe=>by cases e)
theorem Ol(A:pT T g gh G n)(hn:n<=T.length)(ha:a<G.size)(hb:b<G.size):ii (K0 (d+3)) 126 [.ref g,nv a,nv b,nv c] T (.bool (OW G a b c)) T:=
 mk (λQ=>N4 rfl) λQ q hc=>pq (oQ (nb (rF (bi (lc rfl (lc rfl (lz rfl))) (W4 A hn ha hb)) ∅) ac) ac) q
end
structure Ps where
 board:List Nat
 aN:List Nat
 aO:List Nat
 au:Nat
 az:Nat
 aA:Nat
 av:Nat
 key:Nat
 ay:List V
def Ps.sd(P:Ps)(i:Nat):Nat:=P.aO.getD i 0
def Ps.kd(P:Ps)(i:Nat):Nat:=P.aN.getD i 0
structure uG where
 g:Nat
 gh:GH
 G:pf
 n:Nat
 z:Nat
def psO(p:Nat)(X:uG)(P:Ps):O:=.inst 1 [(14,.ref X.g),(15,.ref X.z),(16,.ref (p+1)),(17,.ref (p+2)),(18,.ref (p+3)),(19,nv P.au),(20,nv P.az),(21,.int (-1)),(22,nv P.aA),(3,nv P.av),(23,nv P.key),(24,.ref (p+4))]
structure Xx (G:pf) (P:Ps):Prop where
 bl:P.board.length=G.size
 kl:P.aN.length=7
 sl:P.aO.length=2
 sd:P.au<2
 s64:∀i,P.sd i<2 ^ 64
 sS:∀i,P.sd i<2 ^ G.size
 k64:∀i,P.kd i<2 ^ 64
structure At (T:H) (p:Nat) (X:uG) (P:Ps):Prop where
 geo:pT T X.g X.gh X.G X.n
 low:X.n<=p
 inst:T[p]? =J (psO p X P)
 board:T[p+1]? =J (.list (P.board.map nv))
 aN:T[p+2]? =J (.list (P.aN.map nv))
 aO:T[p+3]? =J (.list (P.aO.map nv))
 ay:T[p+4]? =J (.list P.ay)
 ok:Xx X.G P
theorem At.len(A:At T p X P):X.n<=T.length:=cS A.low (dJ (f0 A.inst))
theorem At.app(A:At T p X P)(t:H):At (T++t) p X P:=
 ⟨A.geo.app A.len t,A.low,(ae (f0 A.inst)).trans A.inst,(ae (f0 A.board)).trans A.board,(ae (f0 A.aN)).trans A.aN,(ae (f0 A.aO)).trans A.aO,(ae (f0 A.ay)).trans A.ay,A.ok⟩
def IF(x:Nat):Nat:=mZ (oq x (x - 1))
theorem H2(h:0<x):0<oq x (x - 1):=by
 ext x;unfold oq;have:x &&& (x - 1)<=x - 1:=dF;lia
theorem J8(h:a<2 ^ 64):a &&& b<2 ^ 64:=ar dG h
def Ps.king(P:Ps)(c:Nat):Nat:=IF (P.sd c &&& P.kd 6)
def Ps.strt(P:Ps):Nat:=P.kd 4 ||| P.kd 5
def Ps.slnt(P:Ps):Nat:=P.kd 3 ||| P.kd 5
def Ps.all(P:Ps):Nat:=P.sd 0 ||| P.sd 1
def Ku(G:pf)(P:Ps)(s c:Nat):Nat:=G.pw (1 - c) s &&& P.kd 1 &&& P.sd c
def vg(G:pf)(P:Ps)(s c:Nat):Nat:=Ku G P s c ||| ((G.knight.getD s 0 &&& P.kd 2) ||| (G.king.getD s 0 &&& P.kd 6)) &&& P.sd c
def tX(G:pf)(P:Ps)(s o:Nat):Nat:=(sy G s o &&& P.strt) ||| (tG G s o &&& P.slnt)
def Q3(G:pf)(P:Ps)(s o:Nat):Nat:=vg G P s 0 ||| vg G P s 1 ||| tX G P s o
def uE(G:pf)(P:Ps)(s c o:Nat):Bool:=cu (vg G P s c≠0)||(cu (sy G s o &&& (P.strt &&& P.sd c)≠0)||(cu (P.slnt &&& P.sd c≠0)&&cu (tG G s o &&& (P.slnt &&& P.sd c)≠0)))
def xo(G:pf)(P:Ps)(c:Nat):Nat:=Q3 G P (P.king c) P.all &&& P.sd (1 - c)
def se(G:pf)(P:Ps)(c:Nat):Bool:=uE G P (P.king c) (1 - c) P.all
section
variable{K:pN}{e:nw}{T h:H}{a b c:E}{i p:Nat}{X:uG}{P:Ps}
theorem oV(A:At h p X P)(B:db K a e h (.ref p) h)(C:db K b e h (nv i) h)(hi:i<2):db K (.sub (.attr a 18) b) e h (nv (P.sd i)) h:=
 tT A.aO (oE 18 A.inst B rfl) C (by rw[A.ok.sl];exact hi) (by rw[A.ok.sl];decide)
theorem tF(A:At h p X P)(B:db K a e h (.ref p) h)(C:db K b e h (nv i) h)(hi:i<7):db K (.sub (.attr a 17) b) e h (nv (P.kd i)) h:=
 tT A.aN (oE 17 A.inst B rfl) C (by rw[A.ok.kl];exact hi) (by rw[A.ok.kl];decide)
theorem qU(A:At h p X P)(B:db K a e h (.ref p) h):db K (.attr a 14) e h (.ref X.g) h:=oE 14 A.inst B rfl
theorem qo(A:At h p X P)(B:db K a e h (.ref p) h):db K (.attr a 19) e h (nv P.au) h:=oE 19 A.inst B rfl
theorem Ra(A:pT h X.g X.gh X.G X.n)(B:db K a e h (.ref X.g) h)(C:db K b e h (nv i) h)(hi:i<X.G.size):db K (.sub (.attr a 10) b) e h (nv (X.G.knight.getD i 0)) h:=
 tT A.knight (oE 10 A.inst B rfl) C (by rw[A.ok.nl];exact hi) (by rw[A.ok.nl];exact ar A.ok.sz ⋯)
theorem XL(A:pT h X.g X.gh X.G X.n)(B:db K a e h (.ref X.g) h)(C:db K b e h (nv i) h)(hi:i<X.G.size):db K (.sub (.attr a 9) b) e h (nv (X.G.king.getD i 0)) h:=
 tT A.king (oE 9 A.inst B rfl) C (by rw[A.ok.kl];exact hi) (by rw[A.ok.kl];exact ar A.ok.sz ⋯)
end
section
variable{d:Nat}{Q:V->H->Prop}{T:H}{p:Nat}{X:uG}{P:Ps}
theorem wx(A:At T p X P):ii (K0 (d+1)) 328 [.ref p] T (nv P.all) T:=
 mk (λQ=>Ks rfl) λQ q hc=>pq (qJ (oV A ∅ bv ⋯) (oV A ∅ bv ⋯)) q
theorem Dx(A:At T p X P)(hc:c<2)(hk:k<7):ii (K0 (d+1)) 335 [.ref p,nv c,nv k] T (nv (P.sd c &&& P.kd k)) T:=
 mk (λQ=>Rs rfl) λQ q w=>pq (nb (oV A ∅ ∅ hc) (tF A ∅ ∅ hk)) q
theorem qO(A:At T p X P)(hc:c<2)(hk:0<P.sd c &&& P.kd 6):ii (K0 (d+3)) 342 [.ref p,nv c] T (nv (P.king c)) T:=
 mk (λQ=>FK rfl) λQ q w=>pq (bi (be (nb (oV A ∅ ∅ hc) (tF A ∅ bv ⋯)) f8) (JM (H2 hk) (J8 (A.ok.s64 c)))) q
theorem za(A:At T p X P):ii (K0 (d+1)) 349 [.ref p] T (nv P.strt) T:=
 mk (λQ=>yH rfl) λQ q hc=>pq (qJ (tF A ∅ bv ⋯) (tF A ∅ bv ⋯)) q
theorem wc(A:At T p X P):ii (K0 (d+1)) 356 [.ref p] T (nv P.slnt) T:=
 mk (λQ=>y4 rfl) λQ q hc=>pq (qJ (tF A ∅ bv ⋯) (tF A ∅ bv ⋯)) q
theorem Bn(A:At T p X P)(hs:s<X.G.size)(hc:c<2):ii (K0 (d+1)) 363 [.ref p,nv s,nv c] T (nv (Ku X.G P s c)) T:=
 mk (λQ=>AO rfl) λQ q w=>pq (nb (nb (YJ A.geo (qU A ∅) (oM ac ∅ (dk hc)) ∅ (gn (eO 1 c)) hs) (tF A ∅ bv ⋯)) (oV A ∅ ∅ hc)) q
theorem ty(A:At T p X P)(hs:s<X.G.size)(hc:c<2):ii (K0 (d+2)) 370 [.ref p,nv s,nv c] T (nv (vg X.G P s c)) T:=
 mk (λQ=>Bo rfl) λQ q w=>bs (qU A ∅) (bs (nb (Ra A.geo ∅ ∅ hs) (tF A ∅ bv ⋯)) (oN rfl (nb (XL A.geo ∅ ∅ hs) (tF A ∅ bv ⋯)) r9
  (pq (qJ (bi (lc rfl (lc rfl (lz rfl))) (Bn A hs hc)) (nb ∅ (oV A ∅ ∅ hc))) q)))
theorem AN(A:At T p X P)(hs:s<X.G.size):ii (K0 (d+4)) 377 [.ref p,nv s,nv o] T (nv (tX X.G P s o)) T:=by
 ext d T p X P s o;exact mk (λQ=>Bc rfl) λQ q w=>by
   have c1:=q7 (d:=d) A.geo A.len (o:=o) hs;have c2:=qE (d:=d) A.geo A.len (o:=o) hs;refine bs ac (bs (bi (lz rfl) (za A)) (lv ∅ oH (λe1=>oN rfl (nb (bi (be (qU A ∅) (lc rfl (lz rfl))) c1) ∅) r9 (ld ?_)) λe1=>?_))
   .refine bs (bi (lz rfl) (wc A)) (lv ∅ oH (λe2=>oN rfl (nb (bi (be (qU A ∅) (lc rfl (lz rfl))) c2) ∅) r9 (ld (pq ∅ ?_))) λe2=>pq ∅ ?_)
    .rw[kN];exact q
    .rw[kN];have:P.slnt=0:=by simpa using e2
     unfold tX at q;rw[this,j5,Nat.or_zero] at q;exact q
   .have h0:P.strt=0:=by simpa using e1
    unfold tX at q;rw[h0,j5,kN] at q;refine bs (bi (lz rfl) (wc A)) (lv ∅ oH (λe2=>oN rfl (nb (bi (be (qU A ∅) (lc rfl (lz rfl))) c2) ∅) r9 (ld (pq ∅ ?_))) λe2=>pq ∅ ?_)
    .rw[kN];exact q
    .have:P.slnt=0:=by simpa using e2
     rw[this,j5] at q;exact q
theorem DP(A:At T p X P)(hs:s<X.G.size):ii (K0 (d+5)) 384 [.ref p,nv s,nv o] T (nv (Q3 X.G P s o)) T:=
 mk (λQ=>Ev rfl) λQ q w=>bs (qJ (bi (lc rfl (lc rfl (be bv f8))) (ty A hs ⋯)) (bi (lc rfl (lc rfl (be bv f8))) (ty A hs ⋯)))
  (pq (qJ ∅ (bi (lc rfl (lc rfl (lz rfl))) (AN A hs))) q)
theorem rP(A:At T p X P)(hs:s<X.G.size)(hc:c<2):ii (K0 (d+4)) 391 [.ref p,nv s,nv c,nv o] T (.bool (uE X.G P s c o)) T:=by
 ext d T p X P s c o;exact mk (λQ=>FZ rfl) λQ q w=>by
   have c1:=q7 (d:=d) A.geo A.len (o:=o) hs;have c2:=qE (d:=d) A.geo A.len (o:=o) hs;unfold uE at q;refine lv (bi (lc rfl (lc rfl (lz rfl))) (ty A hs hc)) oH (λe1=>pP o7 (by rw[e1] at q;exact q)) λe1=>?_;rw[e1,fy] at q;refine bs (qU A ∅) (bs (oV A ∅ ∅ hc) (bs (nb (bi (lz rfl) (za A)) ∅) (lv (x:=nv (sy X.G s o &&& (P.strt &&& P.sd c))) (ru ∅ oH
    (λw=>nb (bi (lc rfl (lc rfl (lz rfl))) c1) ∅) λe2=>⟨?_,rfl⟩) oH (λe2=>pP o7 (by rw[e2] at q;exact q)) λe2=>?_)))
   .have:P.strt &&& P.sd c=0:=by simpa using e2
    rw[this,j5]
   .rw[e2,fy] at q;exact bs (nb (bi (lz rfl) (wc A)) ∅) (pq (sP (tP ∅ ac) (tP (nb (bi (lc rfl (lc rfl (lz rfl))) c2) ∅) ac)) q)
end
section
variable{K:pN}{e:nw}{h h1 h2 h3:H}{a b c:E}{i j n m p:Nat}{v x y z:V}{Q:QS}{r:Ss}{sa sb:Ss}{xs ys:List V}{es:Es}
theorem u3{t:Nat}{l:List Nat}(M:K.aV)(A:db K it e h (.ref p) h1)(g:h1[p]? =J (.list (l.map nv)))(I:Nat->nw->H->Prop)(z:I 0 e h1)(keep:∀j e h,I j e h->h[p]? =J (.list (l.map nv)))
  (step:∀j (hj:j<l.length),∀e h,I j e h->oI K sa (e.set t (J (nv l[j]))) h (o8 (I (j+1)) (sw K r Q))) (done:∀e h,I l.length e h->oI K r e h Q):oI K (.cons (.each (.loc t) it sa) r) e h Q:=
 WP M A g I z keep rfl (λj v hv e h q=>by
  rw[cY] at hv;obtain⟨w,h1,rfl⟩:=dj.mp hv;obtain⟨hj,rfl⟩:=gb.mp h1;exact(step j hj e h q).go) λe h q=>done e h (by rw[bj] at q;exact q)
end
theorem xj:∀(k c s:Nat),o0 k c s=(jC s k).filter λm=>c.testBit (m - s)
 | 0,c,s=>rfl
 | k+1,c,s=>by
  have ih:=xj k;ext k c s;show(if c%2=1 then s::o0 k (c/2) (s+1) else o0 k (c/2) (s+1))=_;have e:(jC (s+1) k).filter (λm=>(c/2).testBit (m - (s+1)))=(jC (s+1) k).filter λm=>c.testBit (m - s):=by
   refine lV λm hm=>?_;rw[lW] at hm;rw[show m - s=(m - (s+1))+1 from VN hm.1,Nat.testBit_succ]
  rw[ih,List.range'_succ,jP,e,eE,Nat.testBit_zero];by_cases h:c%2=1
  .rw[cG h,cG (cC h)]
  .rw[cH h,cH (λe=>h (cy e))]
theorem JQ:m∈o0 k c s↔(s<=m/\m<s+k)/\c.testBit (m - s)=b9:=by
 rw[xj,eo,lW]
theorem GM(h:b<2 ^ n)(q:b.testBit m=b9):m<n:=(Nat.pow_lt_pow_iff_right (dO 1)).mp (ar (Nat.ge_two_pow_of_testBit q) h)
theorem uU(h:m∈oY b):b.testBit m=b9:=(JQ.mp h).2
theorem ED(h:b<2 ^ n)(hm:m∈oY b):m<n:=GM h (uU hm)
def qg(G:pf)(P:Ps)(c:Nat):Nat:=((sy G (P.king c) 0 &&& P.strt) ||| (tG G (P.king c) 0 &&& P.slnt)) &&& P.sd (1 - c)
def qQ(G:pf)(P:Ps)(c s:Nat):Nat:=Oh G (P.king c) s &&& (P.all ^^^ qg G P c)
def xA(G:pf)(P:Ps)(c:Nat)(a s:Nat):Nat:=if qQ G P c s≠0/\qQ G P c s &&& (qQ G P c s - 1)=0 then a ||| qQ G P c s else a
def Oe(G:pf)(P:Ps)(c:Nat)(a s:Nat):Nat:=if qQ G P c s≠0/\qQ G P c s &&& (qQ G P c s - 1)=0/\qQ G P c s &&& P.sd c≠0 then a ||| 1 <<< s else a
def Hf(G:pf)(P:Ps)(c:Nat):Nat:=(oY (qg G P c)).foldl (xA G P c) 0
def C6(G:pf)(P:Ps)(c:Nat):Nat:=(oY (qg G P c)).foldl (Oe G P c) 0
structure td (G:pf) (P:Ps) (c:Nat):Prop where
 pos:0<P.sd c &&& P.kd 6
 lt:P.king c<G.size
theorem AA{f:α->Nat->α}{a:α}{l:List Nat}{j:Nat}(hj:j<l.length):(l.take (j+1)).foldl f a=f ((l.take j).foldl f a) l[j]:=by
 rw[dN hj,List.foldl_append];rfl
theorem c2(c:Nat):1 - c<2:=gn (eO 1 c)
section
variable{d:Nat}{Q:V->H->Prop}{T:H}{p:Nat}{X:uG}{P:Ps}
theorem F3(A:At T p X P)(hc:c<2)(hk:td X.G P c):ii (K0 (d+6)) 398 [.ref p,nv c] T (nv (xo X.G P c)) T:=
 mk (λQ=>FC rfl) λQ q w=>bs (qJ (oV A ∅ bv ⋯) (oV A ∅ bv ⋯))
  (pq (nb (bi (lc rfl (be (bi (lc rfl (lz rfl)) (qO A hc hk.pos)) (lz rfl))) (DP A hk.lt)) (oV A ∅ (oM ac ∅ (dk hc)) (c2 c))) q)
theorem KE(A:At T p X P)(hk:td X.G P P.au):ii (K0 (d+7)) 405 [.ref p] T (nv (xo X.G P P.au)) T:=
 mk (λQ=>Lo rfl) λQ q w=>pq (bi (lc rfl (be (qo A ∅) f8)) (F3 A A.ok.sd hk)) q
theorem FE(A:At T p X P)(hc:c<2)(hk:td X.G P c):ii (K0 (d+5)) 412 [.ref p,nv c] T (.bool (se X.G P c)) T:=
 mk (λQ=>F2 rfl) λQ q w=>bs (qJ (oV A ∅ bv ⋯) (oV A ∅ bv ⋯))
  (pq (bi (lc rfl (be (bi (lc rfl (lz rfl)) (qO A hc hk.pos)) (be (oM ac ∅ (dk hc)) (lz rfl)))) (rP A hk.lt (c2 c))) q)
theorem vX(A:At T p X P)(hk:td X.G P P.au):ii (K0 (d+6)) 419 [.ref p] T (.bool (se X.G P P.au)) T:=
 mk (λQ=>Kx rfl) λQ q w=>pq (bi (lc rfl (be (qo A ∅) f8)) (FE A A.ok.sd hk)) q
theorem GX(A:At T p X P)(hc:c<2)(hk:td X.G P c):ii (K0 (d+4)) 426 [.ref p,nv c] T (nv (qg X.G P c)) T:=
 mk (λQ=>Ht rfl) λQ q w=>bs (bi (lc rfl (lz rfl)) (qO A hc hk.pos))
  (bs (nb (bi (be (qU A ∅) (lc rfl (be ac f8))) (q7 A.geo A.len hk.lt)) (bi (lz rfl) (za A)))
  (oN rfl (nb (bi (be (qU A ∅) (lc rfl (be ac f8))) (qE A.geo A.len hk.lt)) (bi (lz rfl) (wc A))) r9
  (pq (nb ∅ (oV A ∅ (oM ac ∅ (dk hc)) (c2 c))) q)))
theorem Ml{c:Nat}(A:At T p X P)(hc:c<2)(hk:td X.G P c):
  ii (K0 (d+5)) 433 [.ref p,nv c] T (.ref (T.length+1)) (T++[.list ((oY (qg X.G P c)).map nv)]++[.tup [nv (Hf X.G P c),nv (C6 X.G P c)]]):=by
 ext d T p X P c;exact have A':=A.app [.list ((oY (qg X.G P c)).map nv)]
  have hS:qg X.G P c<2 ^ X.G.size:=ar dF (A.ok.sS _)
  have h64:qg X.G P c<2 ^ 64:=ar dF (A.ok.s64 _)
  mk (λQ=>KH rfl) λQ q w=>bs (bi (lc rfl (lz rfl)) (qO A hc hk.pos))
   (bs (bi (lc rfl (lz rfl)) (GX A hc hk)) (bs (zb (qJ (oV A ∅ bv ⋯) (oV A ∅ bv ⋯)) ∅) (bs ac (bs ac
   (u3 (l:=oY (qg X.G P c)) (lw _) (bi (lz rfl) (qe h64)) bn
    (λj e h=>T++[.list ((oY (qg X.G P c)).map nv)]=h/\∃x y,e=[J (.ref p),J (nv c),J (nv (P.king c)),J (nv (qg X.G P c)),J (nv (P.all ^^^ qg X.G P c)),J (nv (((oY (qg X.G P c)).take j).foldl (xA X.G P c) 0)),J (nv (((oY (qg X.G P c)).take j).foldl (Oe X.G P c) 0)),x,y,U,U,U,U,U,U,U,U])
    ⟨rfl,U,U,rfl⟩ (λj e h z=>by obtain⟨rfl,_⟩:=z;exact bn)
    (λj hj e h z=>by
     obtain⟨rfl,x,y,rfl⟩:=z;have hl:=ED hS (du hj);refine bs (nb (bi (be (qU A' ∅) (lc rfl (lz rfl))) (F5 A'.geo A'.len hk.lt hl)) ∅) ?_;rw[AA hj,AA hj];by_cases h0:qQ X.G P c (oY (qg X.G P c))[j]=0
     .refine lv (x:=nv 0) (t:=cj) (ru (x:=nv (qQ X.G P c (oY (qg X.G P c))[j])) ∅ oH (λe=>cJ h0 (cy e)) λw=>⟨by rw[h0],rfl⟩) rfl (λe=>by cases e) λw=>om ⟨rfl,J (nv (oY (qg X.G P c))[j]),J (nv (qQ X.G P c (oY (qg X.G P c))[j])),?_⟩;rw[xA,Oe,cH (λz=>z.1 h0),cH (λz=>z.1 h0)];rfl
     .refine lv (ru (x:=nv (qQ X.G P c (oY (qg X.G P c))[j])) ∅ oH (λw=>ux (bi (be (x:=nv (qQ X.G P c (oY (qg X.G P c))[j])) ∅ f8) (tW (ei h0))) bm) λe=>cJ (cz e) (by simpa using h0)) bm (λe1=>?_) λe1=>?_
      .have h1:qQ X.G P c (oY (qg X.G P c))[j] &&& (qQ X.G P c (oY (qg X.G P c))[j] - 1)=0:=by simpa using e1
       refine oN rfl (x:=nv (((oY (qg X.G P c)).take j).foldl (xA X.G P c) 0)) (y:=nv (qQ X.G P c (oY (qg X.G P c))[j])) ∅ r9 (lv (nb (n:=qQ X.G P c (oY (qg X.G P c))[j]) ∅ (oV A' ∅ ∅ hc)) oH (λe2=>?_) λe2=>?_)
       .refine oN rfl (qu ac ∅ ⋯ (cS (dJ hl) (cS A.geo.ok.sz ⋯))) r9 (ld (ld (om ⟨rfl,J (nv (oY (qg X.G P c))[j]),J (nv (qQ X.G P c (oY (qg X.G P c))[j])),?_⟩)));rw[xA,Oe,cG ⟨h0,h1⟩,cG ⟨h0,h1,cy e2⟩];rfl
       .refine ld (om ⟨rfl,J (nv (oY (qg X.G P c))[j]),J (nv (qQ X.G P c (oY (qg X.G P c))[j])),?_⟩);rw[xA,Oe,cG ⟨h0,h1⟩,cH (λz=>(cz e2) z.2.2)];rfl
      .have h1:¬qQ X.G P c (oY (qg X.G P c))[j] &&& (qQ X.G P c (oY (qg X.G P c))[j] - 1)=0:=by simpa using e1
       refine om ⟨rfl,J (nv (oY (qg X.G P c))[j]),J (nv (qQ X.G P c (oY (qg X.G P c))[j])),?_⟩;rw[xA,Oe,cH (λz=>h1 z.2),cH (λz=>h1 z.2.1)];rfl)
    λe h z=>by
     obtain⟨rfl,x,y,rfl⟩:=z;rw[dW];have q':Q (.ref (T++[O.list ((oY (qg X.G P c)).map nv)]).length) (T++[.list ((oY (qg X.G P c)).map nv)]++[.tup [nv (Hf X.G P c),nv (C6 X.G P c)]]):=by rw[a6];exact q
     exact pq (sZ (lc rfl (lz rfl)) (by show(2:Nat)<=1000;decide)) q')))))
theorem QC(A:At T p X P)(hc:c<2)(hk:td X.G P c):ii (K0 (d+6)) 440 [.ref p,nv c] T (nv (Hf X.G P c &&& P.sd c)) T:=
 mk (λQ=>Cw rfl) λQ q hc'=>by
  refine Rv (v:=nv (Hf X.G P c &&& P.sd c)) (t:=[.list ((oY (qg X.G P c)).map nv)]++[.tup [nv (Hf X.G P c),nv (C6 X.G P c)]]) ?_ hc' trivial q;rw[<- aa];refine nb (pz (bi (lc rfl (lz rfl)) (Ml A hc hk)) ac (ud (xs:=[nv (Hf X.G P c),nv (C6 X.G P c)]) ?_) rfl ⋯) (oV ((A.app _).app _) ∅ ∅ hc);rw[show T.length+1=(T++[O.list ((oY (qg X.G P c)).map nv)]).length by simp];exact bn
end
def V9(a b:Nat):Nat:=if a<b then(1 <<< b) - (2 <<< a) else(1 <<< a) - (2 <<< b)
def uW(G:pf)(P:Ps)(i:Nat):Nat:=match G.castles.getD i U with
 | none=>1
 | some t=>if P.az &&& (1 <<< i)=0 then 2 else if P.all &&& V9 (t.getD 0 0) (t.getD 2 0)≠0 then 3
  else if uE G P (t.getD 0 0) (1 - (i >>> 1)) P.all=b9 then 4 else if uE G P (t.getD 3 0) (1 - (i >>> 1)) P.all=b9 then 5 else if uE G P (t.getD 1 0) (1 - (i >>> 1)) P.all=b9 then 6 else 0
theorem MV(h:a<b):2 <<< a<=1 <<< b:=by
 rw[h8,h8,kJ,fT,<-gT];exact eG ⋯ h
theorem Z6(h:t.length=4):t=[t.getD 0 0,t.getD 1 0,t.getD 2 0,t.getD 3 0]:=by
 match t,h with
 | [a,b,c,d],_=>rfl
section
variable{K:pN}{e:nw}{T h:H}{a b c:E}{i p:Nat}{X:uG}{P:Ps}{d:Nat}
theorem TZ(A:pT h X.g X.gh X.G X.n)(B:db K a e h (.ref X.g) h)(C:db K b e h (nv i) h)(g:X.G.castles[i]? =J U)(hi:i<4):db K (.sub (.attr a 12) b) e h .none h:=
 pz (oE 12 A.inst B rfl) C (io A.castles) (A.cs0 i g) (cX hi ⋯)
theorem AW(hne:x≠y)(hx:x<100)(hy:y<100):ii (K0 (d+1)) 447 [nv x,nv y] T (nv (V9 x y)) T:=
 mk (λQ=>BH rfl) λQ q w=>by
  unfold V9 at q;refine lv (Oj ∅ ∅) bm (λe1=>?_) λe1=>?_
  .have l:=cy e1;rw[cG l] at q;exact pP (oM (qu ac ∅ ⋯ (by lia)) (qu ac ∅ ⋯ (by lia)) (MV l)) q
  .have l:=cz e1;rw[cH l] at q;exact pq (oM (qu ac ∅ ⋯ (by lia)) (qu ac ∅ ⋯ (by lia)) (MV (by lia))) q
theorem Bw{i:Nat}(A:At T p X P)(hi:i<4):ii (K0 (d+5)) 454 [.ref p,nv i] T (nv (uW X.G P i)) T:=by
 ext T p X P d i;exact have hl:i<X.G.castles.length:=by rw[A.geo.ok.cl];exact hi
  mk (λQ=>Bj rfl) λQ q w=>by
   ext Q;have g:=a7 hl;unfold uW at q;rw[ba,g] at q;cases o:X.G.castles[i] with
   | none=>
    rw[o] at g q;exact bs (TZ A.geo (qU A ∅) ∅ g hi) (lv (t:=b9) (pF ∅ yk rfl) rfl (λw=>pP bv q) λe=>by cases e)
   | some t=>
    rw[o] at g q;obtain⟨h4,pt,g1,_,g2⟩:=A.geo.cs i t g;obtain⟨hx,hne⟩:=A.geo.ok.cv t (dD g);have e4:=Z6 h4;have sz:=A.geo.ok.sz;have m0:=hx (t.getD 0 0) (by rw[e4];simp);have m1:=hx (t.getD 1 0) (by rw[e4];simp);have m2:=hx (t.getD 2 0) (by rw[e4];simp);have m3:=hx (t.getD 3 0) (by rw[e4];simp);have hc:1 - (i >>> 1)<2:=c2 _;have hs:i >>> 1<=1:=by rw[W5];lia
    rw[e4] at g2;dsimp only[Option.getD_some] at q;revert q;generalize t.getD 0 0=t0 at*;generalize t.getD 1 0=t1 at*;generalize t.getD 2 0=t2 at*;generalize t.getD 3 0=t3 at*;intro q;refine bs (pz (oE 12 A.geo.inst (qU A ∅) rfl) ∅ (io A.geo.castles) g1 (cX hi ⋯)) (lv (t:=cj) (pF ∅ yk rfl) rfl (λe=>by cases e) λw=>?_);refine lv (oQ (nb (oE 20 A.inst ∅ rfl) (qu ac ∅ ⋯ (by lia))) ac) bm (λe1=>pP bv ?_) λe1=>?_
    .rw[cG (cy e1)] at q;exact q
    rw[cH (cz e1)] at q;refine Ax ∅ g2 rfl (bs (bi (lz rfl) (wx A)) (lv (nb ∅ (bi (lc rfl (lz rfl)) (AW hne (by lia) (by lia)))) oH (λe2=>pP bv ?_) λe2=>?_))
    .rw[cG (cy e2)] at q;exact q
    rw[cH (cz e2)] at q;refine bs (oM ac (rF ∅ ac) hs) (lv (bi (lc rfl (lc rfl (lc rfl (lz rfl)))) (rP A m0 hc)) bm (λe3=>pP bv ?_) λe3=>?_)
    .rw[cG e3] at q;exact q
    rw[cH (by rw[e3];decide)] at q;refine lv (bi (lc rfl (lc rfl (lc rfl (lz rfl)))) (rP A m3 hc)) bm (λe5=>pP bv ?_) λe5=>?_
    .rw[cG e5] at q;exact q
    rw[cH (by rw[e5];decide)] at q;refine lv (bi (lc rfl (lc rfl (lc rfl (lz rfl)))) (rP A m1 hc)) bm (λe6=>pP bv ?_) λe6=>pq bv ?_
    .rw[cG e6] at q;exact q
    .rw[cH (by rw[e6];decide)] at q;exact q
end
section
variable{T:H}{o p i:Nat}{X:uG}{P:Ps}{v v':O}{t:H}
def oP(T:H)(o:Nat)(xs:List Nat):H:=T.set o (.list (xs.map nv))
theorem oo:(oP T o xs).length=T.length:=cR
theorem Au(h:o<T.length):(oP T o xs)[o]? =J (.list (xs.map nv)):=fU h
theorem uL:oP (oP T o xs) o ys=oP T o ys:=gU _
theorem rz(h:T[o]? =J (.list (xs.map nv))):oP T o xs=T:=by
 obtain⟨l,e⟩:=gb.mp h;unfold oP;rw[<- e];exact List.set_getElem_self l
theorem At.put(A:At T p X P)(h:p+4<o):At (oP T o xs) p X P:=by
 have k:∀j,j≠o->(oP T o xs)[j]? =T[j]? :=λj e=>eN (dT e);have l:=A.low;exact⟨A.geo.same λi hi=>k i (by lia),A.low,(k _ (by lia)).trans A.inst,(k _ (by lia)).trans A.board,(k _ (by lia)).trans A.aN,(k _ (by lia)).trans A.aO,(k _ (by lia)).trans A.ay,A.ok⟩
theorem qt(hc:o6 n T):o6 n (oP T o xs):=λa ha=>by
 rcases jx ha with h | rfl
 .exact hc a h
 .intro x hx;obtain⟨y,_,rfl⟩:=ef.mp hx;trivial
variable{K:pN}{e:nw}{n0:Nat}{G:V->H->Prop}{h3:H}
theorem tB(h:o<T.length):(oP T o xs++t)[o]? =J (.list (xs.map nv)):=by
 rw[ae (by rw[oo];exact h)];exact Au h
theorem Em(hl:o<T.length)(A:db K a e (oP T o xs++t) (.ref o) (oP T o xs++t))(B:db K b e (oP T o xs++t) (nv m) (oP T o xs++t))(l:xs.length<1000):db K (.append a b) e (oP T o xs++t) .none (oP T o (xs++[m])++t):=by
 have z:=vp A (tB hl) B (tB hl) (by rw[bj];exact l);rw[iY _ _ (by rw[oo];exact hl)] at z;unfold oP at z ⊢;rw[gU] at z;rw[dR];exact z
theorem Fp(hl:h3.length=n0)(hc:o6 n0 h3)(q:G .none h3):oI K .nil e (h3++t) (qP n0 G):=⟨.inr (.inl ⟨h3,t,rfl,hU hl.symm,hl▸hc,trivial,q⟩)⟩
theorem pW(h:h3.length=n):(h3++[a])[n]? =J a:=by subst h;exact bn
end
def DT(og gs:Nat):List Nat:=(oY gs).map λt=>oT og t 0 0
section
variable{d:Nat}{Q:V->H->Prop}{T:H}{p o:Nat}{X:uG}{P:Ps}{xs:List Nat}
theorem Fc{l:List Nat}{j:Nat}(hj:j<l.length):(l.take (j+1)).map f=(l.take j).map f++[f l[j]]:=by
 rw[dN hj,dR];rfl
theorem IB{og gs:Nat}(ho:og<64)(hg:gs<2 ^ 64)(L:T[o]? =J (.list (xs.map nv)))(hn:xs.length+(oY gs).length<1000):
  ii (K0 (d+2)) 468 [nv og,nv gs,.ref o] T .none (oP T o (xs++DT og gs)):=by
 ext d T o xs og gs;exact have bR:=f0 L
  mk (λQ=>Jq rfl) λQ q hc=>u3 (l:=oY gs) (lw _) (bi (lz rfl) (qe hg)) bn
   (λj e h=>oP T o (xs++((oY gs).take j).map λt=>oT og t 0 0)++[.list ((oY gs).map nv)]=h/\∃x,e=[J (nv og),J (nv gs),J (.ref o),x,U,U,U,U,U])
   ⟨by rw[eQ,iK,cP,rz L],U,rfl⟩ (λj e h z=>by obtain⟨rfl,_⟩:=z;exact pW oo)
   (λj hj e h z=>by
    obtain⟨rfl,x,rfl⟩:=z;refine oO (Em bR ∅ (bi (lc rfl (lc rfl (be bv (be bv f8)))) (r5 ho ⋯ (λe=>cJ e ⋯) ⋯)) ?_) (om ⟨?_,J (nv (oY gs)[j]),rfl⟩)
    .rw[a6,bj,dE];lia
    .rw[Fc hj,<-aa];rfl)
   λe h z=>by
    obtain⟨rfl,x,rfl⟩:=z;rw[dW];exact Fp oo (qt hc) q
theorem JJ:∀(k c s j:Nat),c<2 ^ j->(o0 k c s).length<=j
 | 0,_,_,_,_=>dH _
 | k+1,c,s,j,hc=>by
  by_cases nz:c=0
  .subst nz;rw[A6];exact dH _
  cases j with
  | zero=>exact cJ hc (by simp;lia)
  | succ i=>
   have hd:c/2<2 ^ i:=by rw[gT] at hc;lia
   have:=JJ k (c/2) (s+1) i hd;unfold o0;split
   .exact jQ this
   .exact Nat.le_succ_of_le this
theorem uf(h:b<2 ^ n):(oY b).length<=n:=JJ _ _ _ _ h
theorem vE(h:o<T.length):oP (T++t) o xs=oP T o xs++t:=iY _ _ h
theorem sv{l:List Nat}{j:Nat}(hj:j<l.length):(l.take (j+1)).flatMap f=(l.take j).flatMap f++f l[j]:=by
 rw[dN hj,ij];simp
theorem rq{f:Nat->List Nat}(h:∀x,(f x).length<=m):∀(l:List Nat),(l.flatMap f).length<=l.length*m
 | []=>dH _
 | x::l=>by
  have:=rq h l;have:=h x;rw[iL,a6,eB,jh];lia
def wi(G:pf)(P:Ps)(k tg og:Nat):List Nat:=DT og (sA G P.au k og P.all &&& tg)
def tR(G:pf)(P:Ps)(k tg:Nat):List Nat:=(oY (P.sd P.au &&& P.kd k)).flatMap (wi G P k tg)
theorem GD{og gs n:Nat}(h:gs<2 ^ n):(DT og gs).length<=n:=by
 unfold DT;rw[bj];exact uf h
def rj(G:pf)(P:Ps)(st:Nat):Nat:=if st=0 then P.sd (1 - P.au) else if st=1 then oq G.av P.all else oq G.av (P.sd P.au)
def JN(G:pf)(P:Ps)(gv:Nat):Nat:=if gv=0\/gv &&& (gv - 1)≠0 then 0 else gv ||| Oh G (P.king P.au) (IF gv)
theorem uS{k tg:Nat}(A:At T p X P)(ho:p+4<o)(hk:k<7)(ht:tg<2 ^ 21)(L:T[o]? =J (.list (xs.map nv)))(hn:xs.length+(oY (P.sd P.au &&& P.kd k)).length*21<1000):
  ii (K0 (d+7)) 475 [.ref p,nv k,nv tg,.ref o] T .none (oP T o (xs++tR X.G P k tg)):=by
 ext d T p o X P xs k tg;exact have bR:=f0 L
  have hS:P.sd P.au &&& P.kd k<2 ^ X.G.size:=ar dG (A.ok.sS _)
  have f21:∀x,(wi X.G P k tg x).length<=21:=λx=>GD (ar dF ht)
  mk (λQ=>zw rfl) λQ q hc=>bs (bi (lz rfl) (wx A)) (u3 (l:=oY (P.sd P.au &&& P.kd k)) (lw _)
   (bi (be (bi (lc rfl (be (qo A ∅) (lz rfl))) (Dx A A.ok.sd hk)) f8) (qe (J8 (A.ok.s64 _)))) bn
   (λj e h=>oP T o (xs++((oY (P.sd P.au &&& P.kd k)).take j).flatMap (wi X.G P k tg))++[.list ((oY (P.sd P.au &&& P.kd k)).map nv)]=h/\
    ∃x y,e=[J (.ref p),J (nv k),J (nv tg),J (.ref o),J (nv P.all),x,y,U,U,U,U,U,U])
   ⟨by rw[eQ,gI,cP,rz L],U,U,rfl⟩ (λj e h z=>by obtain⟨rfl,_⟩:=z;exact pW oo)
   (λj hj e h z=>by
    obtain⟨rfl,x,y,rfl⟩:=z;have hl:=ED hS (du hj);have A':=(A.put (xs:=xs++((oY (P.sd P.au &&& P.kd k)).take j).flatMap (wi X.G P k tg)) ho).app [.list ((oY (P.sd P.au &&& P.kd k)).map nv)];have fl:=rq f21 ((oY (P.sd P.au &&& P.kd k)).take j);have fj:=f21 (oY (P.sd P.au &&& P.kd k))[j];have bnd:(xs++((oY (P.sd P.au &&& P.kd k)).take j).flatMap (wi X.G P k tg)).length+21<1000:=by
     rw[a6];rw[dE] at fl;have:min j (oY (P.sd P.au &&& P.kd k)).length*21+21<=(oY (P.sd P.au &&& P.kd k)).length*21:=by lia
     lia
    have g64:sA X.G P.au k (oY (P.sd P.au &&& P.kd k))[j] P.all &&& tg<2 ^ 64:=ar dF (cX ht ⋯);have sz:=A.geo.ok.sz;have kc:=IB (d:=d+4) (T:=oP T o (xs++((oY (P.sd P.au &&& P.kd k)).take j).flatMap (wi X.G P k tg))++[.list ((oY (P.sd P.au &&& P.kd k)).map nv)]) (o:=o) (og:=(oY (P.sd P.au &&& P.kd k))[j]) (by lia) g64 (tB bR)
     (ar (dn (uf (n:=21) (ar dF ht)) _) bnd)
    rw[vE (by rw[oo];exact bR),uL] at kc;refine bs (bi (be (qU A' ∅) (be (qo A' ∅) (lc rfl (lc rfl (lz rfl))))) (Ch A'.geo A'.len A.ok.sd hl))
     (oO (bi (lc rfl (be (nb ∅ ∅) (lz rfl))) kc) (om ⟨?_,J (nv (oY (P.sd P.au &&& P.kd k))[j]),_,rfl⟩))
    rw[sv hj,<-aa];rfl)
   λe h z=>by
    obtain⟨rfl,x,y,rfl⟩:=z;rw[dW];exact Fp oo (qt hc) q)
theorem D5{K:pN}(A:pT h X.g X.gh X.G X.n)(B:db K a e h (.ref X.g) h):db K (.attr a 3) e h (nv X.G.av) h:=oE 3 A.inst B rfl
theorem DY{st:Nat}(A:At T p X P):ii (K0 (d+2)) 482 [.ref p,nv st] T (nv (rj X.G P st)) T:=by
 ext d T p X P st;exact mk (λQ=>D7 rfl) λQ q w=>lv (oQ ∅ bv) bm (λe1=>pP (oV A ∅ (oM ac (qo A ∅) (dk A.ok.sd)) (c2 _)) (by rw[rj,cG (cy e1)] at q;exact q))
   λe1=>lv (oQ ∅ bv) bm (λe2=>pP (xy (D5 A.geo (qU A ∅)) (bi (lz rfl) (wx A))) (by rw[rj,cH (cz e1),cG (cy e2)] at q;exact q))
   λe2=>pq (xy (D5 A.geo (qU A ∅)) (oV A ∅ (qo A ∅) A.ok.sd)) (by rw[rj,cH (cz e1),cH (cz e2)] at q;exact q)
theorem Af(A:At T p X P)(hk:td X.G P P.au)(hg:gv<2 ^ 64)(hl:gv≠0->IF gv<X.G.size):ii (K0 (d+4)) 573 [.ref p,nv gv] T (nv (JN X.G P gv)) T:=
 mk (λQ=>zg rfl) λQ q w=>by
  unfold JN at q;by_cases h0:gv=0
  .rw[cG (.inl h0)] at q;exact lv (t:=b9) (EG (x:=.bool b9) (t:=b9) (by have z:=oQ (K:=K0 (d+3)) (e:=oU 6 [.ref p,nv gv]) (h:=T) (a:=.loc 1) (b:=.int 0) (n:=gv) (m:=0) ∅ ac;rw[cC h0] at z;exact z) rfl (λe=>by cases e) λw=>⟨rfl,rfl⟩) rfl (λw=>pP ac q) λe=>by cases e
  .refine lv (sQ (oQ ∅ ac) (bi (lz rfl) (tW (ei h0)))) bm (λe1=>pP ac ?_) λe1=>pq (qJ ∅ (bi (be (qU A ∅) (be (bi (lc rfl (be (qo A ∅) f8)) (qO A A.ok.sd hk.pos)) (be (bi (lz rfl) (JM (H2 (ei h0)) hg)) f8))) (F5 A.geo A.len hk.lt (hl h0)))) ?_
   .rw[cG (by simpa using e1)] at q;exact q
   .rw[cH (by simpa using e1)] at q;exact q
end
def fwd(G:pf)(c:Nat):Int:=if c=0 then(G.files:Int) else -(G.files:Int)
def pE(G:pf)(c:Nat):Nat:=if c=0 then G.rm.getD (G.ranks - 1) 0 else G.rm.getD 0 0
def PG(G:pf)(b c:Nat):Nat:=if c=0 then b <<< G.files &&& G.av else b >>> G.files
def Xl(G:pf)(b c wg:Nat):Nat:=if wg=0 then PG G (oq b (G.fm.getD (G.files - 1) 0)) c <<< 1 else PG G (oq b (G.fm.getD 0 0)) c >>> 1
def u8(G:pf)(P:Ps)(c:Nat):Nat:=PG G (P.sd c &&& P.kd 1) c &&& oq G.av P.all
def Ek(st:Nat)(cap:Bool):Bool:=if st=0 then cap else if st=1 then !cap else b9
def tV(og t st:Nat)(cap:Bool):List Nat:=(if st≠1 then[oT og t 1 3] else[])++(if Ek st cap=b9 then[oT og t 1 2,oT og t 1 1,oT og t 1 0] else[])
theorem HC(ok:BQ G):G.av<2 ^ 21:=by
 unfold pf.av;rw[h8,kJ];have:=eG (n:=2) ⋯ ok.sz;have:=gj G.size;lia
theorem Rp(ok:BQ G)(h:b<2 ^ 21):PG G b c<2 ^ 21:=by
 unfold PG;split
 .exact ar dF (HC ok)
 .rw[dC];exact ar (mG _ _) h
theorem rB(a b:Nat):oq a b<=a:=eO _ _
section
variable{K:pN}{e:nw}{h h1 h2:H}{a b:E}
theorem HA(A:db K a e h (nv g) h1)(B:db K b e h1 (.int s) h2)(l:0<=(g:Int) - s):db K (.bin .sub a b) e h (nv ((g:Int) - s).toNat) h2:=by
 have z:=uF (o:=.sub) (z:=.int ((g:Int) - s)) A B rfl;unfold nv;rw[gC l];exact z
end
section
variable{d:Nat}{Q:V->H->Prop}{T:H}{p o g n:Nat}{gh:GH}{G:pf}{X:uG}{P:Ps}{xs:List Nat}
theorem xi(A:pT T g gh G n):ii (K0 (d+1)) 489 [.ref g,nv c] T (.int (fwd G c)) T:=
 mk (λQ=>Kl rfl) λQ q w=>lv (oQ ∅ bv) bm (λe1=>pP (oE 0 A.inst ∅ rfl) (by rw[fwd,cG (cy e1)] at q;exact q))
  λe1=>pq (zl (k:=(G.files:Int)) (oE 0 A.inst ∅ rfl)) (by rw[fwd,cH (cz e1)] at q;exact q)
theorem wZ(A:pT T g gh G n):ii (K0 (d+1)) 503 [.ref g,nv c] T (nv (pE G c)) T:=
 have r3:=A.ok.r3
 have r8:=A.ok.r8
 have rl:=A.ok.rl
 mk (λQ=>Jy rfl) λQ q w=>lv (oQ ∅ bv) bm (λe1=>pP (tT A.rm (oE 7 A.inst ∅ rfl) (oM (oE 1 A.inst ∅ rfl) ac (cS ⋯ r3)) (by rw[rl];exact gL (cQ ⋯ r3) ⋯) (by rw[rl];exact ar r8 ⋯)) (by rw[pE,cG (cy e1)] at q;exact q))
  λe1=>pq (tT A.rm (oE 7 A.inst ∅ rfl) ac (by rw[rl];exact cQ ⋯ r3) (by rw[rl];exact ar r8 ⋯)) (by rw[pE,cH (cz e1)] at q;exact q)
theorem wo(A:pT T g gh G n)(hb:b<2 ^ 21):ii (K0 (d+1)) 510 [.ref g,nv b,nv c] T (nv (PG G b c)) T:=
 have f7:=A.ok.f7
 mk (λQ=>Hu rfl) λQ q w=>lv (oQ ∅ bv) bm (λe1=>pP (nb (qu ∅ (oE 0 A.inst ∅ rfl) (cX hb ⋯) (cS f7 ⋯)) (oE 3 A.inst ∅ rfl)) (by rw[PG,cG (cy e1)] at q;exact q))
  λe1=>pq (rF ∅ (oE 0 A.inst ∅ rfl)) (by rw[PG,cH (cz e1)] at q;exact q)
theorem CM(A:pT T g gh G n)(hb:b<2 ^ 21):ii (K0 (d+2)) 517 [.ref g,nv b,nv c,nv wg] T (nv (Xl G b c wg)) T:=
 have f3:=A.ok.f3
 have f7:=A.ok.f7
 have fl:=A.ok.fl
 mk (λQ=>Cq rfl) λQ q w=>lv (oQ ∅ ac) bm (λe1=>pP (qu (bi (lc rfl (be (xy ∅ (tT A.fm (oE 6 A.inst ∅ rfl) (oM (oE 0 A.inst ∅ rfl) ac (cS ⋯ f3)) (by rw[fl];exact gL (cQ ⋯ f3) ⋯) (by rw[fl];exact ar f7 ⋯))) (lz rfl))) (wo A (ar (rB _ _) hb))) ac (cX (Rp A.ok (ar (rB _ _) hb)) ⋯) ⋯) (by rw[Xl,cG (cy e1)] at q;exact q))
  λe1=>pq (rF (bi (lc rfl (be (xy ∅ (tT A.fm (oE 6 A.inst ∅ rfl) ac (by rw[fl];exact cQ ⋯ f3) (by rw[fl];exact ar f7 ⋯))) (lz rfl))) (wo A (ar (rB _ _) hb))) ac) (by rw[Xl,cH (cz e1)] at q;exact q)
theorem w4(A:At T p X P)(hc:c<2):ii (K0 (d+2)) 524 [.ref p,nv c] T (.ref T.length) (T++[.tup [nv (u8 X.G P c),nv 0]]):=by
 ext d T p X P c;exact have hb:P.sd c &&& P.kd 1<2 ^ 21:=ar dG (cQ (A.ok.sS _) (eG ⋯ A.geo.ok.sz))
  mk (λQ=>D9 rfl) λQ q w=>bs (qU A ∅) (bs (xy (D5 A.geo ∅) (bi (lz rfl) (wx A))) (bs (bi (lc rfl (lc rfl (be bv f8))) (Dx A hc ⋯))
   (bs (nb (bi (lc rfl (lc rfl (lz rfl))) (wo A.geo hb)) ∅) (bs ac (lv (t:=cj) (oE 4 A.geo.inst ∅ rfl) rfl (λe=>by cases e) λw=>
    pq (sZ (lc rfl (lz rfl)) (by show(2:Nat)<=1000;decide)) q)))))
end
section
variable{K:pN}{e:nw}{h h1 h2:H}{a b c c1 c2:E}{i o m:Nat}{x:V}{t t1 t2 x1 x2 x3:Bool}{Q:QS}{r:Ss}{xs:List Nat}
theorem Wx(L:h[o]? =J (.list (xs.map nv)))(A:db K a e h (.ref o) h)(B:db K b e h (nv m) h)(l:xs.length<1000):db K (.append a b) e h .none (oP h o (xs++[m])):=by
 have z:=vp A L B L (by rw[bj];exact l);unfold oP;rw[dR];exact z
theorem TJ(L:h[o]? =J (.list (xs.map nv)))(C:db K c e h x h)(k:tr x=J t)(A:db K a e h (.ref o) h)(B:db K b e h (nv m) h)(l:xs.length<1000)(R:oI K r e (oP h o (xs++if t=b9 then[m] else[])) Q):oI K (.cons (.ite c (.cons (.expr (.append a b)) .nil) .nil) r) e h Q:=
 lv C k (λe1=>oO (Wx L A B l) (ld (by rw[cG e1] at R;exact R))) λe1=>by
  rw[cH (by rw[e1];decide),cP,rz L] at R;exact R
theorem WG(C1:db K c1 e h (.bool t1) h)(C2:db K c2 e h (.bool t2) h)(A:db K a e h (.bool x1) h)(B:db K b e h (.bool x2) h)(C:db K c e h (.bool x3) h)(R:oI K r (e.set i (J (.bool (if t1=b9 then x1 else if t2=b9 then x2 else x3)))) h Q):
  oI K (.cons (.ite c1 (.cons (.assign (.loc i) a) .nil) (.cons (.ite c2 (.cons (.assign (.loc i) b) .nil) (.cons (.assign (.loc i) c) .nil)) .nil)) r) e h Q:=
 uJ C1 bm (λe1=>bs A (ld (by rw[cG e1] at R;exact R))) λe1=>uJ C2 bm (λe2=>bs B (ld (ld (by rw[cH (by rw[e1];decide),cG e2] at R;exact R))))
  λe2=>bs C (ld (ld (by rw[cH (by rw[e1];decide),cH (by rw[e2];decide)] at R;exact R)))
end
section
variable{d:Nat}{Q:V->H->Prop}{T:H}{p o g n:Nat}{gh:GH}{G:pf}{X:uG}{P:Ps}{xs:List Nat}
theorem R4(og t st:Nat)(cap:Bool):tV og t st cap=(if cu (st≠1)=b9 then[oT og t 1 (if 1=1 then 5 - 2 else 0)] else[])++(if(if cu (st=0)=b9 then cap else if cu (st=1)=b9 then !cap else b9)=b9 then[4,3,2].map λx=>oT og t 1 (x - 2) else[]):=by
 unfold tV Ek;simp only[cA];rfl
theorem vM{og to st:Nat}{cap:Bool}(hog:og<64)(L:T[o]? =J (.list (xs.map nv)))(hn:xs.length+4<1000):
  ii (K0 (d+2)) 531 [nv og,nv to,nv st,.bool cap,.ref o] T .none (oP T o (xs++tV og to st cap)):=by
 ext d T o xs og to st cap;exact have bR:=f0 L
  mk (λQ=>AS rfl) λQ q hc=>by
   rw[R4,<-aa] at q;refine TJ (m:=oT og to 1 (if 1=1 then 5 - 2 else 0)) L (tP ∅ bv) bm ∅ (bi (lc rfl (lc rfl (be bv (be bv f8)))) (r5 hog ⋯ (λw=>by decide) ⋯)) (by lia)
    (WG (oQ ∅ bv) (oQ ∅ bv) ∅ (ux (x:=.bool cap) ∅ bm) o7 ?_)
   have hb:(xs++if cu (st≠1)=b9 then[oT og to 1 (if 1=1 then 5 - 2 else 0)] else[]).length+3<1000:=by
    rw[a6];split<;>simp<;>lia
   revert q hb;generalize (xs++if cu (st≠1)=b9 then[oT og to 1 (if 1=1 then 5 - 2 else 0)] else[])=ys;intro q hb;refine lv ∅ bm (λe1=>?_) λe1=>?_
   .have e1':=e1;rw[cG e1] at q;refine u3 (l:=[4,3,2]) (lw _) (qp (be bv (be bv (be bv f8))) ⋯) bn
     (λj e h=>oP T o (ys++([4,3,2].take j).map λx=>oT og to 1 (x - 2))++[.list ([4,3,2].map nv)]=h/\∃v x,e=[J (nv og),J (nv to),J (nv st),J (.bool cap),J (.ref o),v,x,U,U,U,U,U,U,U,U,U])
     ⟨by rw[eQ,iK,cP];rfl,_,U,rfl⟩ (λj e h z=>by obtain⟨rfl,_⟩:=z;exact pW (by rw[oo,oo])) (λj hj e h z=>?_) λe h z=>?_
    .obtain⟨rfl,v,x,rfl⟩:=z;have hj':j<3:=hj;have hr:2<=[4,3,2][j]/\[4,3,2][j]<8:=by
      have:∀x∈[4,3,2],2<=x/\x<8:=by decide
      exact this _ (du hj)
     refine oO (Em bR ∅ (bi (lc rfl (lc rfl (be bv (lz rfl)))) (r5 hog ⋯ (λw=>hr.1) hr.2)) ?_) (om ⟨?_,v,J (nv [4,3,2][j]),rfl⟩)
     .rw[a6,bj,dE];lia
     .rw[Fc hj,<-aa];rfl
    .obtain⟨rfl,v,x,rfl⟩:=z;exact ld (Fp oo (qt hc) q)
   .rw[cH (by rw[e1];decide),cP] at q;have z:=Fp (K:=K0 (d+1)) (t:=[]) (G:=Q) (e:=(oU 15 [nv og,nv to,nv st,.bool cap,.ref o]).set 5 (J (.bool (if cu (st=0)=b9 then cap else if cu (st=1)=b9 then !cap else b9)))) (oo (T:=T) (o:=o) (xs:=ys)) (qt hc) q;rw[cP] at z;exact z
end
theorem Nn(ok:BQ G)(hg:g∈oY (u8 G P c &&& y))(hl:g<21):0<=(g:Int) - fwd G c/\((g:Int) - fwd G c).toNat<64:=by
 ext G P c y g;have f7:=ok.f7;unfold fwd;split
 .rename_i h0;have b:=uU hg;rw[cU,ax] at b;have b1:=b.1;unfold u8 PG at b1;rw[cG h0,cU,ax,cU,ax,eJ,ax,cA] at b1;have:G.files<=g:=b1.1.1.1;lia
 .lia
def pO(G:pf)(P:Ps)(tg:Nat):Nat:=u8 G P P.au &&& tg
def yf(G:pf)(P:Ps)(tg:Nat):List Nat:=(oY (oq (pO G P tg) (pE G P.au))).map λ(g:Nat)=>oT ((g:Int) - fwd G P.au).toNat g 0 0
def AD(G:pf)(P:Ps)(st g:Nat):List Nat:=tV ((g:Int) - fwd G P.au).toNat g st cj
def xz(G:pf)(P:Ps)(st tg:Nat):List Nat:=(oY (pO G P tg &&& pE G P.au)).flatMap (AD G P st)
theorem KQ(a b:Nat):oq a b=a &&& oq a b:=by
 unfold oq;have e:a - (a &&& b)=a ^^^ (a &&& b):=by
  have x:=Ii a (a &&& b);have:a &&& (a &&& b)=a &&& b:=by rw[<- iU,j6]
  rw[this] at x;have:=KS a b;lia
 rw[e,Nat.and_xor_distrib_left,j6,<-iU,j6]
theorem AY(og t st:Nat)(cap:Bool):(tV og t st cap).length<=4:=by
 unfold tV;rw[a6];split<;>split<;>simp
section
variable{d:Nat}{Q:V->H->Prop}{T:H}{p o:Nat}{X:uG}{P:Ps}{xs:List Nat}
theorem xJ(A:At T p X P):u8 X.G P c<2 ^ 21:=
 ar dG (Rp A.geo.ok (ar dG (cQ (A.ok.sS _) (eG ⋯ A.geo.ok.sz))))
theorem yT(A:At T p X P)(ho:p+4<o)(L:T[o]? =J (.list (xs.map nv)))(hn:xs.length+21<1000):
  ii (K0 (d+3)) 538 [.ref p,nv tg,.ref o] T .none (oP T o (xs++yf X.G P tg)):=by
 ext d T p o X P xs tg;exact have bR:=f0 L
  have A1:=A.app [.tup [nv (u8 X.G P P.au),nv 0]]
  have o21:oq (pO X.G P tg) (pE X.G P.au)<2 ^ 21:=ar (rB _ _) (ar dG (xJ A))
  mk (λQ=>yN rfl) λQ q hc=>bs (qU A ∅) (bs (bi (lc rfl (be (qo A ∅) f8)) (xi A.geo)) (Ax (vs:=[nv (u8 X.G P P.au),nv 0]) (bi (lc rfl (be (qo A ∅) f8)) (w4 A A.ok.sd)) bn rfl
   (u3 (l:=oY (oq (pO X.G P tg) (pE X.G P.au))) (lw _) (bi (be (xy (nb ∅ ∅) (bi (lc rfl (be (qo A1 ∅) f8)) (wZ A1.geo))) f8) (qe (cX o21 ⋯))) bn
    (λj e h=>oP T o (xs++((oY (oq (pO X.G P tg) (pE X.G P.au))).take j).map λ(g:Nat)=>oT ((g:Int) - fwd X.G P.au).toNat g 0 0)++[.tup [nv (u8 X.G P P.au),nv 0]]++[.list ((oY (oq (pO X.G P tg) (pE X.G P.au))).map nv)]=h/\
     ∃x,e=[J (.ref p),J (nv tg),J (.ref o),J (.ref X.g),J (.int (fwd X.G P.au)),J (nv (u8 X.G P P.au)),J (nv 0),x,U,U,U,U,U,U,U,U])
    ⟨by rw[eQ,iK,cP,rz L];rfl,U,rfl⟩ (λj e h z=>by obtain⟨rfl,_⟩:=z;exact pW (by rw[a6,a6,oo]))
    (λj hj e h z=>by
     obtain⟨rfl,x,rfl⟩:=z;have hm:=du hj;have h21:=ED o21 hm;have og:0<=((oY (oq (pO X.G P tg) (pE X.G P.au)))[j]:Int) - fwd X.G P.au/\(((oY (oq (pO X.G P tg) (pE X.G P.au)))[j]:Int) - fwd X.G P.au).toNat<64:=
      Nn (P:=P) (y:=tg &&& oq (pO X.G P tg) (pE X.G P.au)) A.geo.ok (by rw[<- iU];show _∈oY (pO X.G P tg &&& _);rw[<- KQ];exact hm) h21
     have ln:=uf o21;rw[aa];refine oO (Em bR ∅ (bi (be (HA ∅ ∅ og.1) (lc rfl (be bv (be bv f8)))) (r5 og.2 ⋯ (λe=>cJ e ⋯) ⋯)) ?_) (om ⟨?_,J (nv (oY (oq (pO X.G P tg) (pE X.G P.au)))[j]),rfl⟩)
     .rw[a6,bj,dE];lia
     .rw[Fc hj,<-aa xs,aa (oP _ _ _)];rfl)
    λe h z=>by
     obtain⟨rfl,x,rfl⟩:=z;rw[dW];have e0:(0 &&& tg:Nat)=0:=Nat.zero_and _;refine u3 (l:=oY (0 &&& tg)) (lw _) (bi (be (nb ∅ ∅) f8) (qe (by rw[e0];decide))) bn
      (λj e h=>j=0/\oP T o (xs++yf X.G P tg)++([.tup [nv (u8 X.G P P.au),nv 0]]++([.list ((oY (oq (pO X.G P tg) (pE X.G P.au))).map nv)]++[.list ((oY (0 &&& tg)).map nv)]))=h)
      ⟨rfl,by rw[<- aa,<-aa];rfl⟩ (λj e h z=>?_) (λj hj e h z=>?_) λe h z=>?_
     .obtain⟨_,rfl⟩:=z;rw[<- aa,<-aa];exact bn
     .rw[e0] at hj;exact cJ hj (fE _)
     .obtain⟨_,rfl⟩:=z;exact Fp oo (qt hc) q)))
theorem wR{st tg:Nat}(A:At T p X P)(ho:p+4<o)(L:T[o]? =J (.list (xs.map nv)))(hn:xs.length+84<1000):
  ii (K0 (d+3)) 545 [.ref p,nv st,nv tg,.ref o] T .none (oP T o (xs++xz X.G P st tg)):=by
 ext d T p o X P xs st tg;exact have bR:=f0 L
  have A1:=A.app [.tup [nv (u8 X.G P P.au),nv 0]]
  have o21:pO X.G P tg &&& pE X.G P.au<2 ^ 21:=ar dG (ar dG (xJ A))
  mk (λQ=>wL rfl) λQ q hc=>bs (qU A ∅) (bs (bi (lc rfl (be (qo A ∅) f8)) (xi A.geo)) (bs (pz (bi (lc rfl (be (qo A ∅) f8)) (w4 A A.ok.sd)) ac (ud bn) rfl ⋯)
   (u3 (l:=oY (pO X.G P tg &&& pE X.G P.au)) (lw _) (bi (be (nb (nb ∅ ∅) (bi (lc rfl (be (qo A1 ∅) f8)) (wZ A1.geo))) f8) (qe (cX o21 ⋯))) bn
    (λj e h=>oP T o (xs++((oY (pO X.G P tg &&& pE X.G P.au)).take j).flatMap (AD X.G P st))++([.tup [nv (u8 X.G P P.au),nv 0]]++[.list ((oY (pO X.G P tg &&& pE X.G P.au)).map nv)])=h/\
     ∃x,e=[J (.ref p),J (nv st),J (nv tg),J (.ref o),J (.ref X.g),J (.int (fwd X.G P.au)),J (nv (u8 X.G P P.au)),x,U,U,U,U,U,U])
    ⟨by rw[eQ,gI,cP,rz L,<-aa];rfl,U,rfl⟩ (λj e h z=>by obtain⟨rfl,_⟩:=z;rw[<- aa];exact pW (by rw[a6,a6,oo]))
    (λj hj e h z=>by
     obtain⟨rfl,x,rfl⟩:=z;have hm:=du hj;have h21:=ED o21 hm;have og:0<=((oY (pO X.G P tg &&& pE X.G P.au))[j]:Int) - fwd X.G P.au/\(((oY (pO X.G P tg &&& pE X.G P.au))[j]:Int) - fwd X.G P.au).toNat<64:=
      Nn (P:=P) (y:=tg &&& pE X.G P.au) A.geo.ok (by rw[<- iU];exact hm) h21
     have ln:=uf o21;have fl:=rq (λx=>AY ((x:Int) - fwd X.G P.au).toNat x st cj) ((oY (pO X.G P tg &&& pE X.G P.au)).take j);have kc:=vM (d:=d) (T:=oP T o (xs++((oY (pO X.G P tg &&& pE X.G P.au)).take j).flatMap (AD X.G P st))++([.tup [nv (u8 X.G P P.au),nv 0]]++[.list ((oY (pO X.G P tg &&& pE X.G P.au)).map nv)])) (o:=o) (to:=(oY (pO X.G P tg &&& pE X.G P.au))[j]) (st:=st) (cap:=cj) og.2 (tB bR) (by
      rw[a6];rw[dE] at fl;have:(((oY (pO X.G P tg &&& pE X.G P.au)).take j).flatMap (AD X.G P st)).length<=min j (oY (pO X.G P tg &&& pE X.G P.au)).length*4:=fl;lia)
     rw[vE (by rw[oo];exact bR),uL] at kc;refine oO (bi (be (HA ∅ ∅ og.1) (lc rfl (lc rfl (be o7 (lz rfl))))) kc) (om ⟨?_,J (nv (oY (pO X.G P tg &&& pE X.G P.au))[j]),rfl⟩);rw[sv hj,<-aa xs];rfl)
    λe h z=>by
     obtain⟨rfl,x,rfl⟩:=z;rw[dW];exact Fp oo (qt hc) q)))
theorem Bv(A:At T p X P):ii (K0 (d+1)) 566 [.ref p,.ref o] T .none T:=
 mk (λQ=>AX rfl) λQ q hc=>lv (t:=b9) (pF (oE 21 A.inst ∅ rfl) qI rfl) rfl (λw=>pP yk q) λe=>by cases e
def wD(G:pf)(c wg:Nat):Int:=fwd G c+1 - ((2*wg:Nat):Int)
def tO(G:pf)(P:Ps)(tg wg:Nat):Nat:=Xl G (P.sd P.au &&& P.kd 1) P.au wg &&& (tg &&& P.sd (1 - P.au))
def Dt(G:pf)(P:Ps)(st wg g:Nat):List Nat:=if pE G P.au &&& 1 <<< g≠0 then tV ((g:Int) - wD G P.au wg).toNat g st b9 else[oT ((g:Int) - wD G P.au wg).toNat g 0 0]
def Hr(G:pf)(P:Ps)(st tg wg:Nat):List Nat:=(oY (tO G P tg wg)).flatMap (Dt G P st wg)
def Mi(G:pf)(P:Ps)(st tg:Nat):List Nat:=[0,1].flatMap (Hr G P st tg)
theorem Yl{P:Ps}{tg wg g:Nat}(ok:BQ G)(hw:wg<2)(hg:g∈oY (tO G P tg wg))(hl:g<21):0<=(g:Int) - wD G P.au wg/\((g:Int) - wD G P.au wg).toNat<64:=by
 ext G P tg wg g;have f7:=ok.f7;have f3:=ok.f3;unfold wD fwd;split
 .rename_i h0;have b:=uU hg;unfold tO at b;rw[cU,ax] at b;have b1:=b.1;unfold Xl PG at b1;by_cases w0:wg=0
  .rw[cG w0,cG h0,eJ,ax,cA,cU,ax,eJ,ax,cA] at b1;have h1:=b1.1;have h2:=b1.2.1.1;lia
  .rw[cH w0,cG h0,fA,cU,ax,eJ,ax,cA] at b1;have h2:=b1.1.1;lia
 .lia
theorem Ed(G:pf)(P:Ps)(st wg g:Nat):(Dt G P st wg g).length<=4:=by
 unfold Dt;split
 .exact AY _ _ _ _
 .exact(by decide:1<=4)
theorem x0{st tg:Nat}(A:At T p X P)(ho:p+4<o)(L:T[o]? =J (.list (xs.map nv)))(hn:xs.length+168<1000)(ht:tg<2 ^ 21):
  ii (K0 (d+3)) 552 [.ref p,nv st,nv tg,.ref o] T .none (oP T o (xs++Mi X.G P st tg)):=by
 ext d T p o X P xs st tg;exact have bR:=f0 L
  have hb:P.sd P.au &&& P.kd 1<2 ^ 21:=ar dG (cQ (A.ok.sS _) (eG ⋯ A.geo.ok.sz))
  have o21:∀wg,tO X.G P tg wg<2 ^ 21:=λwg=>ar dF (ar dG ht)
  have cw:∀wg,(Hr X.G P st tg wg).length<=84:=λwg=>cS (rq (Ed X.G P st wg) _) (dQ 4 (uf (o21 wg)))
  mk (λQ=>xV rfl) λQ q hc=>bs (qU A ∅) (bs (qo A ∅) (bs (bi (lc rfl (lz rfl)) (wZ A.geo)) (bs (bi (lc rfl (lc rfl (be bv f8))) (Dx A A.ok.sd ⋯))
   (bs (nb ∅ (oV A ∅ (oM ac ∅ (dk A.ok.sd)) (c2 _)))
   (u3 (l:=[0,1]) (lw _) (qp (be ac (be ac f8)) ⋯) bn
    (λj e h=>∃tl,oP T o (xs++([0,1].take j).flatMap (Hr X.G P st tg))++([.list ([0,1].map nv)]++tl)=h/\
     ∃x y z,e=[J (.ref p),J (nv st),J (nv tg),J (.ref o),J (.ref X.g),J (nv P.au),J (nv (pE X.G P.au)),J (nv (P.sd P.au &&& P.kd 1)),J (nv (tg &&& P.sd (1 - P.au))),x,y,z,U,U,U,U,U,U,U,U,U,U,U])
    ⟨[],by rw[eQ,gI,cP,rz L,cP];rfl,U,U,U,rfl⟩
    (λj e h z=>by obtain⟨tl,rfl,_⟩:=z;rw[<- aa];exact ae (by rw[a6,oo];exact dO _) |>.trans (pW oo))
    (λj hj e h z=>by
     obtain⟨tl,rfl,x,y,z,rfl⟩:=z;have hw:[0,1][j]<2:=(by decide:∀x∈[0,1],x<2) _ (du hj);have fl:=rq cw ([0,1].take j);have hj2:j<2:=hj;rw[dE] at fl;have hb2:(xs++([0,1].take j).flatMap (Hr X.G P st tg)).length+84<1000:=by
      rw[a6];have:min j [0,1].length<=1:=by show min j 2<=1;lia
      lia
     obtain⟨wg,hwg⟩:=(⟨_,rfl⟩:∃wg,wg=[0,1][j])
     obtain⟨ys,hys⟩:=(⟨_,rfl⟩:∃ys,ys=xs++([0,1].take j).flatMap (Hr X.G P st tg))
     rw[<- hwg] at hw ⊢;rw[<- hys] at hb2 ⊢;have A0:=(A.put (xs:=ys) ho).app ([.list ([0,1].map nv)]++tl);refine bs (v:=.int (wD X.G P.au wg)) (uF (uF (bi (lc rfl (lz rfl)) (xi A0.geo)) qI rfl) (sr ac ∅ ⋯ (cX hw ⋯)) rfl)
      (u3 (l:=oY (tO X.G P tg wg)) (lw _) (bi (be (nb (bi (lc rfl (lc rfl (lc rfl (lz rfl)))) (CM A0.geo hb)) ∅) f8) (qe (cX (o21 wg) ⋯))) bn
      (λi e h=>oP T o (ys++((oY (tO X.G P tg wg)).take i).flatMap (Dt X.G P st wg))++(([.list ([0,1].map nv)]++tl)++[.list ((oY (tO X.G P tg wg)).map nv)])=h/\
       ∃z,e=[J (.ref p),J (nv st),J (nv tg),J (.ref o),J (.ref X.g),J (nv P.au),J (nv (pE X.G P.au)),J (nv (P.sd P.au &&& P.kd 1)),J (nv (tg &&& P.sd (1 - P.au))),J (nv wg),J (.int (wD X.G P.au wg)),z,U,U,U,U,U,U,U,U,U,U,U])
      ⟨by rw[eQ,gI,cP,<-aa];rfl,z,rfl⟩
      (λi e h z=>by obtain⟨rfl,_⟩:=z;rw[<- aa (oP _ _ _)];exact pW (by simp only[a6,oo]))
      (λi hi e h z=>?_) λe h z=>?_)
     .obtain⟨rfl,z,rfl⟩:=z;have hm:=du hi;have h21:=ED (o21 wg) hm;have og:=Yl (P:=P) A.geo.ok hw hm h21;have ln:=uf (o21 wg);have fl3:=rq (Ed X.G P st wg) ((oY (tO X.G P tg wg)).take i);rw[dE] at fl3;have hb3:(ys++((oY (tO X.G P tg wg)).take i).flatMap (Dt X.G P st wg)).length+4<1000:=by rw[a6];lia
      refine uJ (nb ∅ (qu ac ∅ ⋯ (cS (dJ h21) ⋯))) oH (λe1=>?_) λe1=>?_
      .have kc:=vM (d:=d) (T:=oP T o (ys++((oY (tO X.G P tg wg)).take i).flatMap (Dt X.G P st wg))++(([.list ([0,1].map nv)]++tl)++[.list ((oY (tO X.G P tg wg)).map nv)])) (o:=o) (to:=(oY (tO X.G P tg wg))[i]) (st:=st) (cap:=b9) og.2 (tB bR) hb3;rw[vE (by rw[oo];exact bR),uL] at kc;refine oO (bi (be (HA ∅ ∅ og.1) (lc rfl (lc rfl (be o7 (lz rfl))))) kc) (ld (om ⟨?_,J (nv (oY (tO X.G P tg wg))[i]),rfl⟩));rw[sv hi,<-aa ys];have:Dt X.G P st wg (oY (tO X.G P tg wg))[i]=tV (((oY (tO X.G P tg wg))[i]:Int) - wD X.G P.au wg).toNat (oY (tO X.G P tg wg))[i] st b9:=cG (cy e1);rw[this]
      .refine oO (Em bR ∅ (bi (be (HA ∅ ∅ og.1) (lc rfl (be bv (be bv f8)))) (r5 og.2 ⋯ (λe=>cJ e ⋯) ⋯)) (by lia)) (ld (om ⟨?_,J (nv (oY (tO X.G P tg wg))[i]),rfl⟩));rw[sv hi,<-aa ys];have:Dt X.G P st wg (oY (tO X.G P tg wg))[i]=[oT (((oY (tO X.G P tg wg))[i]:Int) - wD X.G P.au wg).toNat (oY (tO X.G P tg wg))[i] 0 0]:=cH (cz e1);rw[this];rfl
     .obtain⟨rfl,z,rfl⟩:=z;rw[dW];refine om ⟨tl++[.list ((oY (tO X.G P tg wg)).map nv)],?_,J (nv wg),J (.int (wD X.G P.au wg)),z,rfl⟩;rw[sv hj,<-aa xs,<-hys,<-hwg,aa [_]];rfl)
    λe h z=>by
     obtain⟨tl,rfl,x,y,z,rfl⟩:=z;exact Fp oo (qt hc) q)))))
def r7(G:pf)(P:Ps)(st tg:Nat):List Nat:=(if st≠0 then yf G P tg else[])++xz G P st tg++(if st≠1 then Mi G P st tg else[])
theorem E4{K:pN}{e:nw}{h:H}{c:E}{i f:Nat}{es:Es}{vs:List V}{x:V}{t:Bool}{r:Ss}{Q:QS}(L:h[o]? =J (.list (xs.map nv)))(C:db K c e h x h)(k:tr x=J t)(A:F7 K es e h vs h)(D:t=b9->ii K f vs h .none (oP h o (xs++ys)))
  (R:oI K r e (oP h o (xs++if t=b9 then ys else[])) Q):oI K (.cons (.ite c (.cons (.expr (.call i f es)) .nil) .nil) r) e h Q:=
 lv C k (λe1=>oO (bi A (D e1)) (ld (by rw[cG e1] at R;exact R))) λe1=>by
  rw[cH (by rw[e1];decide),cP,rz L] at R;exact R
theorem Jv(G:pf)(P:Ps)(tg:Nat)(h:u8 G P P.au<2 ^ 21):(yf G P tg).length<=21:=by
 unfold yf;rw[bj];exact uf (ar (rB _ _) (ar dG h))
theorem Gn(G:pf)(P:Ps)(st tg:Nat)(h:u8 G P P.au<2 ^ 21):(xz G P st tg).length<=84:=
 cS (rq (m:=4) (λx=>AY _ _ _ _) _) (dQ 4 (uf (n:=21) (ar dG (ar dG h))))
theorem vP{st tg:Nat}(A:At T p X P)(ho:p+4<o)(L:T[o]? =J (.list (xs.map nv)))(hn:xs.length+273<1000)(ht:tg<2 ^ 21):
  ii (K0 (d+4)) 559 [.ref p,nv st,nv tg,.ref o] T .none (oP T o (xs++r7 X.G P st tg)):=by
 ext d T p o X P xs st tg;exact have bR:=f0 L
  mk (λQ=>AB rfl) λQ q hc=>by
   have q2:Q .none (oP T o ((xs++(if cu (st≠0)=b9 then yf X.G P tg else[]))++xz X.G P st tg++(if cu (st≠1)=b9 then Mi X.G P st tg else[]))):=by
    unfold r7 at q;simp only[cA];have e:∀a b c:List Nat,(xs++a)++b++c=xs++(a++b++c):=λa b c=>by rw[aa,aa,aa]
    rw[e];exact q
   refine E4 L (tP ∅ bv) bm (lc rfl (lc rfl (lz rfl))) (λw=>yT A ho L (by lia)) ?_;have l1:(xs++if cu (st≠0)=b9 then yf X.G P tg else[]).length<=xs.length+21:=by
    rw[a6];have:=Jv X.G P tg (xJ A);split
    .lia
    .simp
   revert q2 l1;generalize xs++(if cu (st≠0)=b9 then yf X.G P tg else[])=ys;intro q2 l1;have k2:=wR (d:=d) (T:=oP T o ys) (o:=o) (st:=st) (tg:=tg) (A.put ho) ho (Au bR) (by lia);rw[uL] at k2;refine oO (bi (lc rfl (lc rfl (lc rfl (lz rfl)))) k2) ?_;have l2:(ys++xz X.G P st tg).length<=xs.length+105:=by
    rw[a6];have:=Gn X.G P st tg (xJ A);lia
   revert q2 l2;generalize ys++xz X.G P st tg=zs;intro q2 l2;refine E4 (Au bR) (tP ∅ bv) bm (lc rfl (lc rfl (lc rfl (lz rfl)))) (λw=>x0 (A.put ho) ho (Au bR) (by lia) ht) ?_;rw[uL];have z:=Fp (K:=K0 (d+3)) (t:=[]) (G:=Q) (e:=oU 9 [.ref p,nv st,nv tg,.ref o]) oo (qt hc) q2;rw[cP] at z;exact z
def yd(G:pf)(P:Ps)(i:Nat):List Nat:=if uW G P i=0 then[oT ((G.castles.getD i U).getD []).head! (((G.castles.getD i U).getD []).getD 1 0) 3 0] else[]
def GO(G:pf)(P:Ps):List Nat:=[2*P.au,2*P.au+1].flatMap (yd G P)
theorem OK(G:pf)(P:Ps)(i:Nat):(yd G P i).length<=1:=by
 unfold yd;split<;>simp
theorem Ei(A:At T p X P)(ho:p+4<o)(L:T[o]? =J (.list (xs.map nv)))(hn:xs.length+2<1000):
  ii (K0 (d+6)) 461 [.ref p,.ref o] T .none (oP T o (xs++GO X.G P)):=by
 ext d T p o X P xs;exact have bR:=f0 L
  have aX:=A.ok.sd
  mk (λQ=>EI rfl) λQ q hc=>u3 (l:=[2*P.au,2*P.au+1]) (lw _) (qp (be (sr ac (qo A ∅) ⋯ (cX aX ⋯)) (be (qK (sr ac (qo A ∅) ⋯ (cX aX ⋯)) ac) f8)) (by show(2:Nat)<=1000;decide)) bn
   (λj e h=>oP T o (xs++([2*P.au,2*P.au+1].take j).flatMap (yd X.G P))++[.list ([2*P.au,2*P.au+1].map nv)]=h/\∃x a b c y,e=[J (.ref p),J (.ref o),x,a,b,c,y,U,U,U,U,U,U])
   ⟨by rw[eQ,gI,cP,rz L];rfl,U,U,U,U,U,rfl⟩ (λj e h z=>by obtain⟨rfl,_⟩:=z;exact pW oo)
   (λj hj e h z=>by
    obtain⟨rfl,x,a,b,c,y,rfl⟩:=z;have A':=(A.put (xs:=xs++([2*P.au,2*P.au+1].take j).flatMap (yd X.G P)) ho).app [.list ([2*P.au,2*P.au+1].map nv)];have hi:[2*P.au,2*P.au+1][j]<4:=by
     have m:=du hj;have:∀x∈[2*P.au,2*P.au+1],x<4:=by
      intro x hx;simp only[dS,fW,or_false] at hx;lia
     exact this _ m
    have fl:=rq (OK X.G P) ([2*P.au,2*P.au+1].take j);have hj2:j<2:=hj;have hb:(xs++([2*P.au,2*P.au+1].take j).flatMap (yd X.G P)).length<1000:=by
     rw[a6];rw[dE,kI] at fl;have:min j [2*P.au,2*P.au+1].length<=1:=by show min j 2<=1;lia
     lia
    obtain⟨i,hie⟩:=(⟨_,rfl⟩:∃i,i=[2*P.au,2*P.au+1][j])
    rw[<- hie] at hi ⊢;refine lv (oQ (bi (lc rfl (lz rfl)) (Bw A' hi)) bv) bm (λe1=>?_) λe1=>?_
    .have r0:uW X.G P i=0:=cy e1;have hl:i<X.G.castles.length:=by rw[A.geo.ok.cl];exact hi
     have g:=a7 hl;cases oc:X.G.castles[i] with
     | none=>
      unfold uW at r0;rw[ba,g,oc] at r0;cases r0
     | some t=>
      rw[oc] at g;obtain⟨h4,pt,g1,gp,g2⟩:=A'.geo.cs i t g;obtain⟨hx,_⟩:=A.geo.ok.cv t (dD g);have e4:=Z6 h4;have sz:=A.geo.ok.sz;have m0:=hx (t.getD 0 0) (by rw[e4];simp);have ce:yd X.G P i=[oT (t.getD 0 0) (t.getD 1 0) 3 0]:=by
       unfold yd;rw[cG r0,ba,g,e4];rfl
      rw[e4] at g2;refine Ax (pz (oE 12 A'.geo.inst (qU A' ∅) rfl) ∅ (io A'.geo.castles) g1 (cX hi ⋯)) g2 rfl
       (oO (Em bR ∅ (bi (lc rfl (lc rfl (be bv (be bv f8)))) (r5 (by lia) ⋯ (λe=>cJ e ⋯) ⋯)) hb) (ld (om ⟨?_,J (nv i),_,_,_,_,rfl⟩)))
      rw[sv hj,<-aa xs,<-hie,ce];rfl
    .refine om ⟨?_,J (nv i),a,b,c,y,rfl⟩;have ce:yd X.G P i=[]:=cH (cz e1);rw[sv hj,<-hie,ce,cP])
   λe h z=>by
    obtain⟨rfl,x,a,b,c,y,rfl⟩:=z;exact Fp oo (qt hc) q
def u0(m:Nat):Nat:=m >>> 14 &&& 3
def qW(m:Nat):Nat:=m >>> 6 &&& 63
def qG(m:Nat):Nat:=m &&& 63
def ww(G:pf)(P:Ps)(m pn:Nat):Bool:=if u0 m=3 then b9 else if qW m=P.king P.au then !uE G P (qG m) (1 - P.au) (P.all ^^^ 1 <<< P.king P.au)
 else if pn >>> qW m &&& 1=0 then b9 else OW G (qW m) (qG m) (P.king P.au)
theorem HB(A:At T p X P):ii (K0 (d+1)) 587 [.ref p,nv tg] T (.bool cj) T:=
 mk (λQ=>vF rfl) λQ q hc=>lv (t:=b9) (pF (oE 21 A.inst ∅ rfl) qI rfl) rfl (λw=>pP o7 q) λe=>by cases e
theorem L8(A:At T p X P)(hk:td X.G P P.au)(h2:u0 m≠2)(hf:qW m<X.G.size)(ht:qG m<X.G.size):ii (K0 (d+5)) 615 [.ref p,nv m,nv pn] T (.bool (ww X.G P m pn)) T:=by
 ext d T p X P m pn;exact have sz:=A.geo.ok.sz
  mk (λQ=>Mf rfl) λQ q hc=>by
   unfold ww at q;refine bs (v:=nv (u0 m)) (bi (lz rfl) (sC)) (lv (oQ ∅ bv) bm (λe1=>pP o7 ?_) λe1=>?_)
   .rw[cG (cy e1)] at q;exact q
   rw[cH (cz e1)] at q;refine lv (oQ ∅ bv) bm (λe2=>cJ (cy e2) h2) λw=>?_;refine bs (v:=nv (qW m)) (bi (lz rfl) (uV)) (bs (v:=nv (qG m)) (bi (lz rfl) (vm)) (bs (bi (lc rfl (be (qo A ∅) f8)) (qO A A.ok.sd hk.pos)) ?_));refine lv (oQ ∅ ∅) bm (λe3=>?_) λe3=>?_
   .rw[cG (cy e3)] at q;exact bs (zb (qJ (oV A ∅ bv ⋯) (oV A ∅ bv ⋯)) (qu ac ∅ ⋯ (cS (dJ hk.lt) (cS sz ⋯))))
     (pP (ux (bi (lc rfl (lc rfl (be (oM ac (qo A ∅) (dk A.ok.sd)) (lz rfl)))) (rP A ht (c2 _))) bm) q)
   rw[cH (cz e3)] at q;refine lv (oQ (nb (rF ∅ ∅) ac) ac) bm (λe4=>pP o7 ?_) λe4=>pq (bi (be (qU A ∅) (lc rfl (lc rfl (lz rfl)))) (Ol A.geo A.len hf ht)) ?_
   .rw[cG (cy e4)] at q;exact q
   .rw[cH (cz e4)] at q;exact q
def vh(P:Ps)(k:Nat):Nat:=(oY (P.sd P.au &&& P.kd k)).length
theorem DD(ht:tg<2 ^ 21):(tR G P k tg).length<=vh P k*21:=
 rq (λx=>GD (ar dF ht)) _
def ut(G:pf)(P:Ps)(ks:List Nat)(tg:Nat):List Nat:=ks.flatMap λk=>tR G P k tg
theorem ME{Q:QS}{r:Ss}{e:nw}{tl:H}{t i:Nat}{it ea eb ec:E}{ks:List Nat}{tg hd:Nat}(A:At T p X P)(ho:p+4<o)(bR:o<T.length)(ht:tg<2 ^ 21)(hk:∀k∈ks,k<7)(hn:xs.length+(ks.map (vh P)).sum*21<1000)(hit:db (K0 (d+7)) it e (oP T o xs++tl) (.ref hd) (oP T o xs++(tl++[.list (ks.map nv)])))(hh:hd=T.length+tl.length)(ht4:e[t]? ≠U)(ha:∀x h,db (K0 (d+7)) ea (e.set t (J x)) h (.ref p) h)(hb:∀x h,db (K0 (d+7)) eb (e.set t (J x)) h (nv tg) h)(hc:∀x h,db (K0 (d+7)) ec (e.set t (J x)) h (.ref o) h)(R:∀e',(e'=e\/∃x,e'=e.set t (J x))->oI (K0 (d+7)) r e' (oP T o (xs++ut X.G P ks tg)++(tl++[.list (ks.map nv)])) Q):
  oI (K0 (d+7)) (.cons (.each (.loc t) it (.cons (.expr (.call i 475 (.cons ea (.cons (.loc t) (.cons eb (.cons ec .nil)))))) .nil)) r) e (oP T o xs++tl) Q:=by
 revert Q r e tl t i it ea eb ec ks tg hd;ext d T p o X P xs;ext Q r e tl t i it ea eb ec ks tg hd;exact u3 (l:=ks) (lw _) hit (by rw[<- aa];exact pW (by rw[a6,oo,hh]))
   (λj e' h=>oP T o (xs++(ks.take j).flatMap λk=>tR X.G P k tg)++(tl++[.list (ks.map nv)])=h/\(e'=e\/∃x,e'=e.set t (J x)))
   ⟨by rw[eQ,gI,cP],.inl rfl⟩ (λj e h z=>by obtain⟨rfl,_⟩:=z;rw[<- aa (oP _ _ _)];exact pW (by rw[a6,oo,hh]))
   (λj hj e' h z=>by
    obtain⟨rfl,he⟩:=z;have es:e'.set t (J (nv ks[j]))=e.set t (J (nv ks[j])):=by
     rcases he with rfl | ⟨x,rfl⟩
     .rfl
     .rw[gU]
    have el:(e.set t (J (nv ks[j])))[t]? =J (J (nv ks[j])):=by
     rw[fU];refine cM λq=>ht4 ?_;exact eI (d7 q)
    have A':=(A.put (xs:=xs++(ks.take j).flatMap λk=>tR X.G P k tg) ho).app (tl++[.list (ks.map nv)]);have bnd:(xs++(ks.take j).flatMap λk=>tR X.G P k tg).length+vh P ks[j]*21<1000:=by
     have g:∀l:List Nat,(l.flatMap λk=>tR X.G P k tg).length<=(l.map (vh P)).sum*21:=by
      intro l
      induction l with
      | nil=>exact dH _
      | cons k l ih=>
       rw[iL,a6,dA,fM,jz];have:=DD (G:=X.G) (P:=P) (k:=k) ht;lia
     have g1:=g (ks.take j);have g2:((ks.take (j+1)).map (vh P)).sum<=(ks.map (vh P)).sum:=by
      have:=gV (j+1) ks;have e2:(ks.map (vh P)).sum=((ks.take (j+1)).map (vh P)).sum+((ks.drop (j+1)).map (vh P)).sum:=by rw[<- mS,<-dR,this]
      lia
     rw[dN hj,dR,mS] at g2;simp only[dA,iK,fM,lX,jW] at g2;rw[a6];lia
    have kc:=uS (d:=d) (T:=oP T o (xs++(ks.take j).flatMap λk=>tR X.G P k tg)++(tl++[.list (ks.map nv)])) (o:=o) A' ho (hk _ (du hj)) ht (tB bR) bnd;rw[vE (by rw[oo];exact bR),uL] at kc;rw[es];refine oO (bi (be (ha _ _) (be (r_loc el) (be (hb _ _) (be (hc _ _) f8)))) kc) (om ⟨?_,.inr ⟨_,rfl⟩⟩);rw[sv hj,<-aa xs])
   λe' h z=>by
    obtain⟨rfl,he⟩:=z;rw[dW];exact R e' he
theorem TO(h0:0<x)(h:x<2 ^ n):IF x<n:=by
 unfold IF;rw[Nat.log2_lt (fh (H2 h0))];exact ar (rB _ _) h
def t8(G:pf)(P:Ps):Nat:=JN G P (xo G P P.au)
def DB(G:pf)(P:Ps):List Nat:=(if t8 G P≠0 then r7 G P 3 (t8 G P)++ut G P [2,3,4,5] (t8 G P) else[])++tR G P 6 (oq G.av (P.sd P.au))
theorem GG{st tg:Nat}(A:At T p X P)(ht:tg<2 ^ 21):(r7 X.G P st tg).length<=273:=by
 ext T p X P st tg;have a:=Jv X.G P tg (xJ A);have b:=Gn X.G P st tg (xJ A);have c:(Mi X.G P st tg).length<=168:=by
  have:=rq (f:=Hr X.G P st tg) (m:=84) (λwg=>cS (rq (Ed X.G P st wg) _) (dQ 4 (uf (n:=21) (ar dF (ar dG ht))))) [0,1];exact this
 unfold r7;rw[a6,a6];split<;>split
 all_goals first | lia | (simp only[fc];lia)
theorem Fa(ht:tg<2 ^ 21):(ut X.G P ks tg).length<=(ks.map (vh P)).sum*21:=by
 unfold ut
 induction ks with
 | nil=>exact dH _
 | cons k l ih=>
  rw[iL,a6,dA,fM,jz];have:=DD (G:=X.G) (P:=P) (k:=k) ht;lia
theorem De(A:At T p X P)(hk:td X.G P P.au)(ho:p+4<o)(L:T[o]? =J (.list (xs.map nv)))(ht:t8 X.G P<2 ^ 21)(hn:xs.length+273+((([2,3,4,5]:List Nat).map (vh P)).sum*21+vh P 6*21)<1000):
  ii (K0 (d+8)) 594 [.ref p,.ref o] T .none (oP T o (xs++DB X.G P)):=by
 ext d T p o X P xs;exact have bR:=f0 L
  have hS:xo X.G P P.au<2 ^ X.G.size:=ar dF (A.ok.sS _)
  have f21:oq X.G.av (P.sd P.au)<2 ^ 21:=ar (rB _ _) (HC A.geo.ok)
  mk (λQ=>DS rfl) λQ q hc=>by
   unfold DB at q;have last:∀(e:nw) (ys:List Nat) (tl:H),ys.length+vh P 6*21<1000->e[0]? =J (J (.ref p))->e[1]? =J (J (.ref o))->Q .none (oP T o (ys++tR X.G P 6 (oq X.G.av (P.sd P.au))))->
     oI (K0 (d+7)) (.cons (.expr (.call 14 475 (.cons (.loc 0) (.cons (.glo 15 (.int 6)) (.cons (.bin .band (.attr (.attr (.loc 0) 14) 3) (.inv (.sub (.attr (.loc 0) 18) (.attr (.loc 0) 19)))) (.cons (.loc 1) .nil)))))) .nil) e (oP T o ys++tl) (qP T.length Q):=λe ys tl hb g0 g1 q=>by
    have A':=(A.put (xs:=ys) ho).app tl;have kc:=uS (d:=d) (T:=oP T o ys++tl) (o:=o) (k:=6) (tg:=oq X.G.av (P.sd P.au)) A' ho ⋯ f21 (tB bR) hb;rw[vE (by rw[oo];exact bR),uL] at kc;exact oO (bi (be (r_loc g0) (be bv (be (xy (D5 A'.geo (qU A' (r_loc g0))) (oV A' (r_loc g0) (qo A' (r_loc g0)) A.ok.sd)) (be (r_loc g1) f8)))) kc) (Fp oo (qt hc) q)
   refine bs (v:=nv (t8 X.G P)) (bi (lc rfl (be (bi (lz rfl) (KE A hk)) f8)) (Af A hk (ar dF (A.ok.s64 _)) (λh=>TO (ei h) hS))) (lv ∅ oH (λe1=>?_) λe1=>?_)
   .rw[cG (cy e1),<-aa,<-aa] at q;have pl:=GG (st:=3) A ht;have kl:=Fa (X:=X) (P:=P) (ks:=[2,3,4,5]) ht;refine oO (bi (lc rfl (be bv (lc rfl (lz rfl)))) (vP A ho L (by lia) ht)) ?_;have A2:=A.put (xs:=xs++r7 X.G P 3 (t8 X.G P)) ho;refine lv (bi (lc rfl (lz rfl)) (HB A2)) bm (λe=>by cases e) λw=>?_;have z:=ME (d:=d) (xs:=xs++r7 X.G P 3 (t8 X.G P)) (tl:=[]) (t:=3) (i:=14) (it:=.list (.cons (.glo 10 (.int 2)) (.cons (.glo 11 (.int 3)) (.cons (.glo 12 (.int 4)) (.cons (.glo 13 (.int 5)) .nil))))) (ea:=.loc 0) (eb:=.loc 2) (ec:=.loc 1) (ks:=[2,3,4,5]) (tg:=t8 X.G P) (hd:=(oP T o (xs++r7 X.G P 3 (t8 X.G P))++[]).length) (r:=.nil) (e:=(oU 16 [.ref p,.ref o]).set 2 (J (nv (t8 X.G P)))) (T:=T) (o:=o)
     (Q:=sw (K0 (d+7)) (.cons (.expr (.call 14 475 (.cons (.loc 0) (.cons (.glo 15 (.int 6)) (.cons (.bin .band (.attr (.attr (.loc 0) 14) 3) (.inv (.sub (.attr (.loc 0) 18) (.attr (.loc 0) 19)))) (.cons (.loc 1) .nil)))))) .nil) (qP T.length Q))
     A ho bR ht ⋯ (by rw[a6];lia) (by rw[fF,cP];exact qp (be bv (be bv (be bv (be bv f8)))) ⋯) (by rw[cP,oo];rfl) (jf (U:Option V)) (λx h=>r_loc rfl) (λx h=>r_loc rfl) (λx h=>r_loc rfl)
     (λe' he=>ld (last e' _ _ (by rw[a6,a6];lia) (by rcases he with rfl | ⟨x,rfl⟩<;>rfl) (by rcases he with rfl | ⟨x,rfl⟩<;>rfl) q))
    rw[cP] at z;exact z
   .rw[cH (cz e1),fF] at q;have z:=last ((oU 16 [.ref p,.ref o]).set 2 (J (nv (t8 X.G P)))) xs [] (by lia) rfl rfl q;rw[rz L,cP] at z;exact z
end
def uc(G:pf)(P:Ps)(st:Nat):List Nat:=if st=3 then DB G P else r7 G P st G.av++ut G P [2,3,4,5,6] (rj G P st)++(if st≠0 then GO G P else[])
section
variable{K:pN}{e:nw}{h h1 h3:H}{a:E}{v:V}{G:V->H->Prop}{r r':Ss}{n0:Nat}{t:H}{T:H}{xs:List Nat}
theorem aaZ(A:db K a e h v (h3++t))(hl:n0<=h3.length)(hc:o6 h3.length h3)(hv:sF h3.length v)(q:G v h3):oI K (.cons (.ret a) r) e h (qP n0 G):=⟨A.go _ (.inr (.inl ⟨h3,t,rfl,hl,hc,hv,q⟩))⟩
theorem YN(A:db K a e h v (h3++t))(hl:n0<=h3.length)(hc:o6 h3.length h3)(hv:sF h3.length v)(q:G v h3):oI K (.cons (.ret a) r) e h (sw K r' (qP n0 G)):=⟨A.go _ (.inr (.inl ⟨h3,t,rfl,hl,hc,hv,q⟩))⟩
theorem WU(C:db K c e h x h)(k:tr x=J tt)(A:F7 K es e h vs h)(D:ii K f vs h .none h)(R:oI K r e h Q):oI K (.cons (.ite c (.cons (.expr (.call i f es)) .nil) .nil) r) e h Q:=
 lv C k (λw=>oO (bi A D) (ld R)) λw=>R
theorem yC(l:n<=m)(h:sF n v):sF m v:=by
 cases v<;>first | exact cQ h l | trivial
theorem B6(hc:o6 T.length T):o6 (T++[O.list (xs.map nv)]).length (T++[O.list (xs.map nv)]):=by
 ext T xs;exact λo ho=>by
  have l:T.length<=(T++[O.list (xs.map nv)]).length:=by rw[a6];exact di _ _
  rcases cV.mp ho with h | h
  .have z:=hc o h;cases o with
   | list ys=>exact λx hx=>yC l (z x hx)
   | tup ys=>exact λx hx=>yC l (z x hx)
   | inst c fs=>exact λx hx=>yC l (z x hx)
   | aT _ _ _=>trivial
  .rw[dX] at h;subst h;intro x hx;obtain⟨y,_,rfl⟩:=ef.mp hx;trivial
theorem DZ:oP (T++[O.list (xs.map nv)]) T.length ys=T++[O.list (ys.map nv)]:=zq
theorem tQ:(T++[o]).length=T.length+1:=by rw[a6];rfl
end
section
variable{d:Nat}{Q:V->H->Prop}{T:H}{p:Nat}{X:uG}{P:Ps}
theorem At.lt(A:At T p X P):p+4<T.length:=f0 A.ay
theorem L7{st:Nat}(A:At T p X P)(hk:td X.G P P.au)(ht:t8 X.G P<2 ^ 21)(hst:∀st,rj X.G P st<2 ^ 21)(hn:(([2,3,4,5,6]:List Nat).map (vh P)).sum<=21):ii (K0 (d+9)) 622 [.ref p,nv st] T (.ref T.length) (T++[.list ((uc X.G P st).map nv)]):=by
 ext d T p X P st;exact have A0:=A.app [.list (([]:List Nat).map nv)]
  have ho:p+4<T.length:=A.lt
  have L0:(T++[O.list (([]:List Nat).map nv)])[T.length]? =J (.list (([]:List Nat).map nv)):=bn
  have f21:X.G.av<2 ^ 21:=HC A.geo.ok
  have hs:(([2,3,4,5]:List Nat).map (vh P)).sum+vh P 6<=21:=by
   simp only[dA,iK,fM,lX] at hn ⊢;lia
  mk (λQ=>Lg rfl) λQ q hc=>by
   unfold uc at q;refine bs (qp (xs:=[]) f8 (dH _)) (lv (oQ ∅ bv) bm (λe1=>?_) λe1=>?_)
   .rw[cG (cy e1)] at q;have kc:=De (d:=d) (T:=T++[.list (([]:List Nat).map nv)]) (o:=T.length) A0 hk ho L0 ht (by simp only[fc];lia);rw[DZ,fF] at kc;refine oO (bi (lc rfl (lz rfl)) kc) (YN (t:=[]) (h3:=T++[.list ((DB X.G P).map nv)]) (v:=.ref T.length) ?_ ?_ (B6 hc) ?_ q)
    .rw[cP];exact r_loc rfl
    .rw[tQ];exact my _
    .rw[tQ];exact dO _
   .rw[cH (cz e1)] at q;have pl:=GG (st:=st) A f21;have kl:=Fa (X:=X) (P:=P) (ks:=[2,3,4,5,6]) (hst st);refine bs (bi (lc rfl (lz rfl)) (DY A0)) ?_;have kc:=vP (d:=d+4) (T:=T++[.list (([]:List Nat).map nv)]) (o:=T.length) (st:=st) (tg:=X.G.av) A0 ho L0 (by simp only[fc];lia) f21;refine oO (bi (lc rfl (lc rfl (be (D5 A0.geo (qU A0 ∅)) (lz rfl)))) kc) ?_;rw[fF];have A1:=A0.put (xs:=r7 X.G P st X.G.av) ho;refine WU (tP ∅ bv) bm (lc rfl (lz rfl)) (Bv A1) ?_;have z:=λ(Q':QS) (r:Ss) R=>ME (d:=d+1) (xs:=r7 X.G P st X.G.av) (tl:=[]) (t:=4) (i:=16) (it:=.list (.cons (.glo 11 (.int 2)) (.cons (.glo 12 (.int 3)) (.cons (.glo 13 (.int 4)) (.cons (.glo 14 (.int 5)) (.cons (.glo 15 (.int 6)) .nil)))))) (ea:=.loc 0) (eb:=.loc 3) (ec:=.loc 2) (ks:=[2,3,4,5,6]) (tg:=rj X.G P st) (hd:=(oP (T++[O.list (([]:List Nat).map nv)]) T.length (r7 X.G P st X.G.av)++[]).length) (r:=r) (e:=((oU 19 [.ref p,nv st]).set 2 (J (.ref T.length))).set 3 (J (nv (rj X.G P st)))) (T:=T++[O.list (([]:List Nat).map nv)]) (o:=T.length)
     (Q:=Q') A0 ho (by rw[tQ];exact dO _) (hst st) ⋯ (by lia) (by rw[fF,cP];exact qp (be bv (be bv (be bv (be bv (be bv f8))))) (by show(5:Nat)<=1000;decide)) (by rw[cP,oo];rfl) (jf (U:Option V)) (λx h=>r_loc rfl) (λx h=>r_loc rfl) (λx h=>r_loc rfl) R
    rw[cP] at z;refine z _ _ λe' he=>?_;have g0:e'[0]? =J (J (.ref p)):=by rcases he with rfl | ⟨x,rfl⟩<;>rfl
    have g1:e'[1]? =J (J (nv st)):=by rcases he with rfl | ⟨x,rfl⟩<;>rfl
    have g2:e'[2]? =J (J (.ref T.length)):=by rcases he with rfl | ⟨x,rfl⟩<;>rfl
    rw[DZ];have A2:=(A.app [.list ((r7 X.G P st X.G.av++ut X.G P [2,3,4,5,6] (rj X.G P st)).map nv)]).app ([]++[.list (([2,3,4,5,6]:List Nat).map nv)]);have L2:(T++[O.list ((r7 X.G P st X.G.av++ut X.G P [2,3,4,5,6] (rj X.G P st)).map nv)]++([]++[O.list (([2,3,4,5,6]:List Nat).map nv)]))[T.length]? =J (.list ((r7 X.G P st X.G.av++ut X.G P [2,3,4,5,6] (rj X.G P st)).map nv)):=
     (ae (by rw[tQ];exact dO _)).trans bn
    refine E4 L2 (tP (r_loc g1) bv) bm (be (r_loc g0) (be (r_loc g2) f8)) (λw=>Ei A2 ho L2 (by rw[a6];lia)) ?_;rw[vE (by rw[tQ];exact dO _),DZ];simp only[cA];refine aaZ (h3:=T++[.list ((r7 X.G P st X.G.av++ut X.G P [2,3,4,5,6] (rj X.G P st)++if st≠0 then GO X.G P else[]).map nv)]) (r_loc g2) ?_ (B6 hc) ?_ q
    .rw[tQ];exact my _
    .rw[tQ];exact dO _
end
def Cm(G:pf)(P:Ps):Nat:=Hf G P P.au &&& P.sd P.au
def CA(b:Bool):List Nat:=if b=b9 then[3] else[0,1]
def AK(G:pf)(P:Ps):Bool:=(CA (se G P P.au)).any λst=>(uc G P st).any λm=>ww G P m (Cm G P)
theorem Ir{f:α->Bool}{l:List α}{j:Nat}(hj:j<l.length):(l.take (j+1)).any f=((l.take j).any f||f l[j]):=by
 rw[dN hj,mT,iT,j7,iV]
section
variable{K:pN}{e:nw}{h h1 h3:H}{a:E}{v:V}{G:V->H->Prop}{r r1 r2 r3:Ss}{t:H}{I ak:nw->H->Prop}
theorem Y1(A:db K a e h v (h3++t))(hc:o6 h3.length h3)(hv:sF h3.length v)(q:G v h3):oI K (.cons (.ret a) r) e h (sw K r1 (o8 I (sw K r2 (o8 ak (sw K r3 (qP h3.length G)))))):=⟨A.go _ (C7 (e:=e) hc hv q)⟩
end
section
variable{d:Nat}{Q:V->H->Prop}{T:H}{p:Nat}{X:uG}{P:Ps}
theorem tq(A:At T p X P)(hk:td X.G P P.au)(ht:t8 X.G P<2 ^ 21)(hst:∀st,rj X.G P st<2 ^ 21)(hn:(([2,3,4,5,6]:List Nat).map (vh P)).sum<=21)(hm:∀st,∀m∈uc X.G P st,u0 m≠2/\qW m<X.G.size/\qG m<X.G.size):ii (K0 (d+10)) 629 [.ref p] T (.bool (AK X.G P)) T:=by
 ext d T p X P;exact mk (λQ=>A3 rfl) λQ q hc=>by
   unfold AK at q;obtain⟨b,hb⟩:=(⟨_,rfl⟩:∃b,b=se X.G P P.au)
   have kc:=vX (d:=d+3) A hk;rw[<- hb] at kc q;obtain⟨sg,hsg⟩:=(⟨_,rfl⟩:∃sg,sg=CA b)
   have A1:=A.app [.list (sg.map nv)];refine bs (v:=.ref T.length) (h1:=T++[.list (sg.map nv)]) (Rq (bi (lz rfl) kc) bm (λe1=>?_) λe1=>?_) ?_
   .rw[hsg,e1];exact qp (be bv f8) (by show(1:Nat)<=1000;decide)
   .rw[hsg,e1];exact qp (be bv (be bv f8)) (by show(2:Nat)<=1000;decide)
   rw[<- hsg] at q;refine bs (v:=nv (Cm X.G P)) (bi (lc rfl (be (qo A1 ∅) f8)) (QC A1 A.ok.sd hk)) (u3 (l:=sg) (lw _) ∅ bn
    (λj e h=>∃tl,T++([.list (sg.map nv)]++tl)=h/\((sg.take j).any λst=>(uc X.G P st).any λm=>ww X.G P m (Cm X.G P))=cj/\∃x y,e=[J (.ref p),J (.ref T.length),J (nv (Cm X.G P)),x,y,U,U,U,U,U,U,U,U])
    ⟨[],by rw[cP],by rw[eQ,j7],U,U,rfl⟩ (λj e h z=>by
     obtain⟨tl,rfl,_⟩:=z;rw[<- aa];exact(ae (by rw[tQ];exact dO _)).trans bn) (λj hj e h z=>?_) λe h z=>?_)
   .obtain⟨tl,rfl,ha,x,y,rfl⟩:=z;have A2:=A.app ([.list (sg.map nv)]++tl);obtain⟨st,hse⟩:=(⟨_,rfl⟩:∃st,st=sg[j])
    rw[<- hse];have bk:uc X.G P st=uc X.G P sg[j]:=by rw[hse]
    refine u3 (l:=uc X.G P st) (lw _) (bi (lc rfl (lz rfl)) (L7 A2 hk ht hst hn)) bn
     (λi e h=>T++(([.list (sg.map nv)]++tl)++[.list ((uc X.G P st).map nv)])=h/\(((uc X.G P st).take i).any λm=>ww X.G P m (Cm X.G P))=cj/\∃y,e=[J (.ref p),J (.ref T.length),J (nv (Cm X.G P)),J (nv st),y,U,U,U,U,U,U,U,U])
     ⟨by rw[<- aa],by rw[eQ,j7],y,rfl⟩ (λi e h z=>by
      obtain⟨rfl,_⟩:=z;rw[<- aa T];exact bn) (λi hi e h z=>?_) λe h z=>?_
    .obtain⟨rfl,hf,y,rfl⟩:=z;obtain⟨m2,m3,m4⟩:=hm st _ (du hi);refine lv (bi (lc rfl (lc rfl (lz rfl))) (L8 (A.app _) hk m2 m3 m4)) bm (λe1=>?_) λe1=>om ⟨rfl,by rw[Ir hi,hf,e1];rfl,J (nv (uc X.G P st)[i]),rfl⟩;have big:(sg.any λst=>(uc X.G P st).any λm=>ww X.G P m (Cm X.G P))=b9:=by
      rw[ez];refine⟨sg[j],du hj,?_⟩;rw[<- bk,ez];exact⟨_,du hi,e1⟩
     rw[big] at q;exact Y1 (v:=.bool b9) o7 hc trivial q
    .obtain⟨rfl,hf,y,rfl⟩:=z;rw[dW] at hf;refine om ⟨tl++[.list ((uc X.G P st).map nv)],by rw[aa [_]],?_,J (nv st),y,rfl⟩;rw[Ir hj,ha,<-bk,hf];rfl
   .obtain⟨tl,rfl,ha,x,y,rfl⟩:=z;rw[dW] at ha;rw[ha] at q;exact Rv (v:=.bool cj) o7 hc trivial q
end
structure HK (T:H) (P:Ps) (ks:List Nat):Prop where
 len:ks.length=P.ay.length
 small:ks.length<=100
 at_:∀(i k:Nat),ks[i]? =J k->∃q a b c d e,P.ay[i]? =J (.ref q)/\T[q]? =J (.tup [a,b,c,d,e,nv k])
theorem HK.app(A:HK T P ks)(t:H):HK (T++t) P ks:=⟨A.len,A.small,λi k h=>by
 obtain⟨q,a,b,c,d,e,h1,h2⟩:=A.at_ i k h;exact⟨q,a,b,c,d,e,h1,(ae (f0 h2)).trans h2⟩⟩
def rQ(P:Ps):Nat:=if P.aA<P.ay.length then P.aA else P.ay.length
def CF(P:Ps)(ks:List Nat)(k:Nat):Nat:=if k=0 then P.key else ks.getD (ks.length - k) 0
section
variable{d:Nat}{Q:V->H->Prop}{T:H}{p:Nat}{X:uG}{P:Ps}{ks:List Nat}
theorem rY(A:At T p X P)(hl:P.ay.length<=1000000):ii (K0 (d+1)) 636 [.ref p] T (nv (rQ P)) T:=
 mk (λQ=>yU rfl) λQ q hc=>lv (Oj (oE 22 A.inst ∅ rfl) (t5 (oE 24 A.inst ∅ rfl) (io A.ay) hl)) bm (λe1=>pP (oE 22 A.inst ∅ rfl) (by rw[rQ,cG (cy e1)] at q;exact q))
  λe1=>pq (t5 (oE 24 A.inst ∅ rfl) (io A.ay) hl) (by rw[rQ,cH (cz e1)] at q;exact q)
theorem t7(A:At T p X P)(S:HK T P ks)(hk:k<=ks.length):ii (K0 (d+1)) 643 [.ref p,nv k] T (nv (CF P ks k)) T:=by
 ext d T p X P ks k;exact have hl:=S.len
  have hs:=S.small
  mk (λQ=>Ie rfl) λQ q hc=>lv (oQ ∅ ac) bm (λe1=>pP (oE 23 A.inst ∅ rfl) (by rw[CF,cG (cy e1)] at q;exact q))
   λe1=>by
    have k0:k≠0:=cz e1;have hi:ks.length - k<ks.length:=by lia
    rw[CF,cH k0,ba,a7 hi] at q;obtain⟨qh,a,b,c,d',e,h1,h2⟩:=S.at_ _ _ (a7 hi);exact pq (pz (pz (oE 24 A.inst ∅ rfl) (oM (t5 (oE 24 A.inst ∅ rfl) (io A.ay) (by lia)) ∅ (by lia)) (io A.ay) (by rw[<- hl];exact h1) (by lia)) ac (ud h2) rfl ⋯) q
end
structure Gd (G:pf) (P:Ps):Prop where
 k:td G P P.au
 ht:t8 G P<2 ^ 21
 hst:∀st,rj G P st<2 ^ 21
 hn:(([2,3,4,5,6]:List Nat).map (vh P)).sum<=21
 hm:∀st,∀m∈uc G P st,u0 m≠2/\qW m<G.size/\qG m<G.size
section
variable{K:pN}{e:nw}{h h1 h2 h3 t:H}{a b c:E}{i j n m p:Nat}{v x y z:V}{Q:QS}{r:Ss}{sa sb:Ss}{es:Es}{G:V->H->Prop}
theorem E5(A:F7 K es e h [nv n,nv m,nv 2] h1)(l:n<1000000)(l':m<1000000):db K (.range i es) e h (.ref h1.length) (h1++[.aT n m 2]):=⟨λQ q=>A.go _ (by
 show tj (te [.int (n:Int),.int (m:Int),.int 2] h1) Q;have e:(yP (n:Int)&&yP (m:Int)&&((2:Int) == 1||(2:Int) == 2||(2:Int) == -1))=b9:=by(rewrite [rC l,rC l'];try with_reducible rfl);rfl
 (rewrite [TH,cG e];try with_reducible rfl)
 exact q)⟩
theorem GE:oG K (.aT (n:Int) (m:Int) 2) h x j=J (if j<(m+1 - n)/2 then J (nv (n+2*j)) else .none):=by
 ext K h j n m x;have e1:pI (n:Int) (m:Int) 2=(m+1 - n)/2:=by
  unfold pI;rw[cH ⋯,cG ⋯];lia
 unfold oG;dsimp only;rw[e1];have e2:(n:Int)+(j:Int)*2=((n+2*j:Nat):Int):=by lia
 rw[e2];rfl
theorem Fd{t:Nat}(M:K.aV)(A:db K it e h (.ref p) h1)(g:h1[p]? =J (.aT (n:Int) (m:Int) 2))(N:Nat)(l:N=(m+1 - n)/2)(l1:n<1000000)(l2:m<1000000)(I:Nat->nw->H->Prop)(z:I 0 e h1)(step:∀j,j<N->∀e h,I j e h->oI K sa (e.set t (J (nv (n+2*j)))) h (o8 (I (j+1)) (sw K r Q)))(done:∀e h,I N e h->oI K r e h Q):oI K (.cons (.each (.loc t) it sa) r) e h Q:=by
 revert N I;ext K e h h1 n m p Q r sa it t;subst l;exact E2 (k:=.aT (n:Int) (m:Int) 2) M A (by simp [Fm,tS,g,rC l2,rC l1]) rfl _ I z
  (λj hj e h z=>⟨nv (n+2*j),by rw[GE,cG hj],(step j hj e h z).go⟩)
  λe h z=>⟨by rw[GE,cH (eZ _)],done e h z⟩
theorem xX(A:db K a e h v (h3++t))(hc:o6 h3.length h3)(hv:sF h3.length v)(q:G v h3)(aj:∀e h,qP h3.length G (.ret v) e h->Q (.ret v) e h):oI K (.cons (.ret a) r) e h Q:=⟨A.go _ (aj _ _ (C7 (e:=e) hc hv q))⟩
end
def tJ(P:Ps)(ks:List Nat):Nat->List Nat
 | 0=>[]
 | n+1=>tJ P ks n++if CF P ks (4+2*n)=P.key then[4+2*n] else[]
def rS(P:Ps):Nat:=(rQ P - 2)/2
def MW:List Nat->Int
 | []=>0
 | [a]=>a
 | a::_::_=>-a
theorem IE:∀k:Nat,∃t,tJ P ks (j+k)=tJ P ks j++t
 | 0=>⟨[],by rw[cP];rfl⟩
 | k+1=>by
  obtain⟨t,e⟩:=IE (P:=P) (ks:=ks) (j:=j) k;exact⟨t++_,by rw[<- dI,tJ,e,aa]⟩
def QX(P:Ps)(ks:List Nat)(aI:Nat):Bool:=(cn ((rQ P+1+1 - (aI+4))/2)).any λj=>cu (CF P ks aI=CF P ks (aI+4+2*j))
def LL(P:Ps)(ks:List Nat):Bool:=(cn (rQ P+1)).any (QX P ks)
theorem F4:(cn (n+1)).any f=((cn n).any f||f n):=by
 rw[gk,mT,iT,j7,iV]
theorem Ni(l:j<n)(h:f j=b9):(cn n).any f=b9:=ez.mpr ⟨j,cO.mpr l,h⟩
theorem Lx(S:HK T P ks):rQ P<=ks.length:=by
 have:=S.len;unfold rQ;split<;>lia
section
variable{d:Nat}{Q:V->H->Prop}{T:H}{p:Nat}{X:uG}{P:Ps}{ks:List Nat}
theorem ym(A:At T p X P)(S:HK T P ks):ii (K0 (d+2)) 650 [.ref p] T (nv (tJ P ks (rS P)).length) T:=by
 ext d T p X P ks;exact have hl:=S.len
  have hs:=S.small
  have hr:=Lx S
  mk (λQ=>FV rfl) λQ q hc=>bs ac (Fd (n:=4) (m:=rQ P+1) (lw _) (E5 (be ac (be (qK (bi (lz rfl) (rY A (by lia))) ac) (be ac f8))) ⋯ (by show rQ P+1<1000000;lia)) bn
   (rS P) (by unfold rS;lia) ⋯ (by lia) (λj e h=>T++[.aT (4:Nat) (rQ P+1:Nat) 2]=h/\∃x,e=[J (.ref p),J (nv (tJ P ks j).length),x,U,U,U,U]) ⟨rfl,U,rfl⟩
   (λj hj e h z=>by
    obtain⟨rfl,x,rfl⟩:=z;have hk:4+2*j<=ks.length:=by unfold rS at hj;lia
    have A':=A.app [.aT (4:Nat) (rQ P+1:Nat) 2];refine lv (oQ (bi (lc rfl (lz rfl)) (t7 A' (S.app _) hk)) (oE 23 A'.inst ∅ rfl)) bm (λe1=>oN rfl ac B3 (ld (om ⟨rfl,J (nv (4+2*j)),?_⟩))) λe1=>om ⟨rfl,J (nv (4+2*j)),?_⟩
    .rw[tJ,cG (cy e1),a6];rfl
    .rw[tJ,cH (cz e1),cP];rfl)
   λe h z=>by
    obtain⟨rfl,x,rfl⟩:=z;exact xX ∅ hc trivial q λw w z=>z)
theorem tY(A:At T p X P)(S:HK T P ks):ii (K0 (d+3)) 657 [.ref p,nv m] T (.bool (cu (m<=(tJ P ks (rS P)).length+1))) T:=
 mk (λQ=>CN rfl) λQ q hc=>pq (Kb (qK (bi (lz rfl) (ym A S)) ac) ∅) q
theorem ti(A:At T p X P)(S:HK T P ks):ii (K0 (d+2)) 664 [.ref p] T (.int (MW (tJ P ks (rS P)))) T:=by
 ext d T p X P ks;exact have hl:=S.len
  have hs:=S.small
  have hr:=Lx S
  mk (λQ=>wQ rfl) λQ q hc=>bs ac (Fd (n:=4) (m:=rQ P+1) (lw _) (E5 (be ac (be (qK (bi (lz rfl) (rY A (by lia))) ac) (be ac f8))) ⋯ (by show rQ P+1<1000000;lia)) bn
   (rS P) (by unfold rS;lia) ⋯ (by lia) (λj e h=>T++[.aT (4:Nat) (rQ P+1:Nat) 2]=h/\∃x f,e=[J (.ref p),J (nv f),x,U,U,U,U]/\(tJ P ks j=[]/\f=0\/0<f/\tJ P ks j=[f])) ⟨rfl,U,0,rfl,.inl ⟨rfl,rfl⟩⟩
   (λj hj e h z=>by
    obtain⟨rfl,x,f,rfl,hf⟩:=z;have hk:4+2*j<=ks.length:=by unfold rS at hj;lia
    have A':=A.app [.aT (4:Nat) (rQ P+1:Nat) 2];refine lv (oQ (bi (lc rfl (lz rfl)) (t7 A' (S.app _) hk)) (oE 23 A'.inst ∅ rfl)) bm (λe1=>?_) λe1=>om ⟨rfl,J (nv (4+2*j)),f,rfl,?_⟩
    .have e1:=cy e1;refine lv (Jh ∅ ac) bm (λe2=>?_) λe2=>bs ∅ (ld (om ⟨rfl,J (nv (4+2*j)),4+2*j,rfl,.inr ⟨by lia,?_⟩⟩))
     .have e2:=cy e2;rcases hf with hf | hf
      .have:=hf.2;have:0<f:=e2;lia
      .obtain⟨t,ht⟩:=IE (P:=P) (ks:=ks) (j:=j+1) (rS P - (j+1));rw[show j+1+(rS P - (j+1))=rS P by lia,tJ,cG e1,hf.2] at ht;rw[ht] at q;exact xX (v:=.int (-(f:Int))) (zl ∅) hc trivial q λw w z=>z
     .rcases hf with hf | hf
      .rw[tJ,cG e1,hf.1];rfl
      .exact cJ hf.1 (cz e2)
    .rw[tJ,cH (cz e1),cP];exact hf)
   λe h z=>by
    obtain⟨rfl,x,f,rfl,hf⟩:=z;refine xX (v:=nv f) ∅ hc trivial ?_ λw w z=>z;rcases hf with⟨h1,h2⟩ | ⟨h1,h2⟩
    .rw[h1] at q;rw[h2];exact q
    .rw[h2] at q;exact q)
theorem DG(A:At T p X P)(S:HK T P ks):ii (K0 (d+2)) 671 [.ref p] T (.bool (LL P ks)) T:=by
 ext d T p X P ks;exact have hl:=S.len
  have hs:=S.small
  have hr:=Lx S
  mk (λQ=>Dn rfl) λQ q hc=>bs (bi (lz rfl) (rY A (by lia))) (rV (n:=0) (m:=rQ P+1) (lw _) (qd (be (qK ∅ ac) f8) (by show rQ P+1<1000000;lia)) bn (by lia) (by lia)
   (λj e h=>∃tl,T++([.aT (0:Nat) (rQ P+1:Nat) 1]++tl)=h/\(cn j).any (QX P ks)=cj/\∃x y,e=[J (.ref p),J (nv (rQ P)),x,y,U,U,U,U]) ⟨[],by rw[cP];rfl,rfl,U,U,rfl⟩
   (λaI w hn e h z=>by
    obtain⟨tl,rfl,ha,x,y,rfl⟩:=z;refine Fd (n:=aI+4) (m:=rQ P+1) (lw _) (E5 (be (qK ∅ ac) (be (qK ∅ ac) (be ac f8))) (by show aI+4<1000000;lia) (by show rQ P+1<1000000;lia)) bn _ rfl (by lia) (by lia)
     (λj e h=>T++([.aT (0:Nat) (rQ P+1:Nat) 1]++tl)++[.aT (aI+4:Nat) (rQ P+1:Nat) 2]=h/\((cn j).any λj=>cu (CF P ks aI=CF P ks (aI+4+2*j)))=cj/\∃y,e=[J (.ref p),J (nv (rQ P)),J (nv aI),y,U,U,U,U])
     ⟨rfl,rfl,y,rfl⟩ (λj hj e h z=>?_) λe h z=>?_
    .obtain⟨rfl,hf,y,rfl⟩:=z;have A':=(A.app ([.aT (0:Nat) (rQ P+1:Nat) 1]++tl)).app [.aT (aI+4:Nat) (rQ P+1:Nat) 2];have S':=(S.app ([.aT (0:Nat) (rQ P+1:Nat) 1]++tl)).app [.aT (aI+4:Nat) (rQ P+1:Nat) 2];refine lv (oQ (bi (lc rfl (lz rfl)) (t7 A' S' (k:=aI) (by lia))) (bi (lc rfl (lz rfl)) (t7 A' S' (k:=aI+4+2*j) (by lia)))) bm (λe1=>?_) λe1=>om ⟨rfl,by rw[F4,hf,e1];rfl,J (nv (aI+4+2*j)),rfl⟩;have:LL P ks=b9:=Ni hn (Ni hj e1);rw[this] at q;rw[aa];exact xX (v:=.bool b9) o7 hc trivial q λw w z=>z
    .obtain⟨rfl,hf,y,rfl⟩:=z;refine om ⟨tl++[.aT (aI+4:Nat) (rQ P+1:Nat) 2],by rw[aa,aa],?_,J (nv aI),y,rfl⟩;rw[F4,ha];exact hf)
   λe h z=>by
    obtain⟨tl,rfl,ha,x,y,rfl⟩:=z;have:LL P ks=cj:=ha;rw[this] at q;exact xX (v:=.bool cj) o7 hc trivial q λw w z=>z)
def Sq(G:pf)(P:Ps):Bool:=se G P P.au&& !AK G P
def D6(G:pf)(P:Ps):Bool:=cu (100<=P.aA)&& !Sq G P
def Ke(G:pf)(s:Nat):Nat:=s%G.files+s/G.files &&& 1
def z8(G:pf)(P:Ps):Nat:=(oY (P.kd 3)).foldl (λa s=>a ||| 1 <<< Ke G s) 0
def xh(G:pf)(P:Ps):Bool:=if P.kd 1 ||| P.kd 4 ||| P.kd 5≠0 then cj else if P.kd 2=0 then cu (z8 G P≠3) else cu (P.kd 3=0)&& !cu (P.kd 2 &&& (P.kd 2 - 1)≠0)
def R8(G:pf)(P:Ps)(ks:List Nat):Bool:=xh G P||(cu (3<=(tJ P ks (rS P)).length+1)||D6 G P)
def MU(G:pf)(P:Ps)(ks:List Nat)(m:Nat):Bool:=if D6 G P=b9 then b9 else cu (MW (tJ P ks (rS P))≠0)&&cu (MW (tJ P ks (rS P))<(m:Int))
def Df(G:pf)(P:Ps)(ks:List Nat):Nat:=if AK G P=cj then(if se G P P.au=b9 then 1 else 2) else if 100<=P.aA then 3 else if 3<=(tJ P ks (rS P)).length+1 then 4 else if xh G P=b9 then 5 else 0
def Gz(P:Ps)(o:Nat):Str:=if o=0 then bb "*" else if o≠1 then bb "1/2-1/2" else if P.au=0 then bb "0-1" else bb "1-0"
theorem Fg(A:At T p X P)(g:Gd X.G P):ii (K0 (d+11)) 678 [.ref p] T (.bool (Sq X.G P)) T:=
 mk (λQ=>Dq rfl) λQ q hc=>pq (sP (bi (lz rfl) (vX (d:=d+4) A g.k)) (ux (bi (lz rfl) (tq A g.k g.ht g.hst g.hn g.hm)) bm)) q
theorem EY(A:At T p X P)(g:Gd X.G P):ii (K0 (d+11)) 685 [.ref p] T (.bool (!se X.G P P.au&& !AK X.G P)) T:=
 mk (λQ=>Dl rfl) λQ q hc=>pq (sP (ux (bi (lz rfl) (vX (d:=d+4) A g.k)) bm) (ux (bi (lz rfl) (tq A g.k g.ht g.hst g.hn g.hm)) bm)) q
theorem Dr(A:At T p X P)(g:Gd X.G P):ii (K0 (d+12)) 692 [.ref p] T (.bool (D6 X.G P)) T:=
 mk (λQ=>Ld rfl) λQ q hc=>pq (sP (Kb (oE 22 A.inst ∅ rfl) bv) (ux (bi (lz rfl) (Fg A g)) bm)) q
theorem CC(A:pT T g gh G n):ii (K0 (d+1)) 699 [.ref g,nv s] T (nv (Ke G s)) T:=
 have f3:=A.ok.f3
 have f7:=A.ok.f7
 mk (λQ=>CH rfl) λQ q hc=>pq (nb (qK (wF ∅ (oE 0 A.inst ∅ rfl) (by lia)) (sX ∅ (oE 0 A.inst ∅ rfl) (by lia) (by lia))) ac) q
theorem Rg(G:pf)(s:Nat):Ke G s<=1:=dF
theorem Pd(A:At T p X P):ii (K0 (d+2)) 706 [.ref p] T (.bool (cu (z8 X.G P≠3))) T:=by
 ext d T p X P;exact mk (λQ=>vI rfl) λQ q hc=>bs ac (u3 (l:=oY (P.kd 3)) (lw _) (bi (be (tF A ∅ bv ⋯) f8) (qe (A.ok.k64 _))) bn
   (λj e h=>T++[.list ((oY (P.kd 3)).map nv)]=h/\∃x,e=[J (.ref p),J (nv (((oY (P.kd 3)).take j).foldl (λa s=>a ||| 1 <<< Ke X.G s) 0)),x,U,U,U,U]) ⟨rfl,U,rfl⟩ (λj e h z=>by obtain⟨rfl,_⟩:=z;exact bn)
   (λj hj e h z=>by
    obtain⟨rfl,x,rfl⟩:=z;have A':=A.app [.list ((oY (P.kd 3)).map nv)];refine oN rfl (qu ac (bi (be (qU A' ∅) (lz rfl)) (CC A'.geo)) ⋯ (cS (Rg _ _) ⋯)) r9 (om ⟨rfl,J (nv (oY (P.kd 3))[j]),?_⟩);rw[AA hj];rfl)
   λe h z=>by
    obtain⟨rfl,x,rfl⟩:=z;rw[dW];exact xX (tP ∅ ac) hc trivial q λw w z=>z)
theorem sV(A:At T p X P):ii (K0 (d+3)) 713 [.ref p] T (.bool (xh X.G P)) T:=by
 ext d T p X P;exact have kk:∀{K:pN} {e:nw} {a b:E} {i:Nat},db K a e T (.ref (p+2)) T->db K b e T (nv i) T->i<7->db K (.sub a b) e T (nv (P.kd i)) T:=λB C hi=>tT A.aN B C (by rw[A.ok.kl];exact hi) (by rw[A.ok.kl];decide)
  mk (λQ=>Ar rfl) λQ q hc=>by
   unfold xh at q;refine bs (oE 17 A.inst ∅ rfl) (lv (tP (qJ (qJ (kk ∅ bv ⋯) (kk ∅ bv ⋯)) (kk ∅ bv ⋯)) ac) bm (λe1=>pP o7 ?_) λe1=>?_)
   .rw[cG (cy e1)] at q;exact q
   rw[cH (cz e1)] at q;refine lv (oQ (kk ∅ bv ⋯) ac) bm (λe2=>pP (bi (lz rfl) (Pd A)) ?_) λe2=>?_
   .rw[cG (cy e2)] at q;exact q
   rw[cH (cz e2)] at q;exact pq (sP (oQ (kk ∅ bv ⋯) ac) (ux (bi (be (kk ∅ bv ⋯) f8) (tW (ei (cz e2)))) bm)) q
theorem II(A:At T p X P)(S:HK T P ks)(g:Gd X.G P):ii (K0 (d+13)) 720 [.ref p] T (.bool (R8 X.G P ks)) T:=
 mk (λQ=>zk rfl) λQ q hc=>pq (sQ (bi (lz rfl) (sV A)) (sQ (bi (lc rfl (be ac f8)) (tY A S)) (bi (lz rfl) (Dr A g)))) q
theorem FX(A:At T p X P)(S:HK T P ks)(g:Gd X.G P):ii (K0 (d+13)) 727 [.ref p,nv m] T (.bool (MU X.G P ks m)) T:=
 mk (λQ=>xW rfl) λQ q hc=>by
  unfold MU at q;refine lv (bi (lz rfl) (Dr A g)) bm (λe1=>pP o7 ?_) λe1=>?_
  .rw[cG e1] at q;exact q
  rw[cH (by rw[e1];decide)] at q;exact bs (bi (lz rfl) (ti A S)) (pq (sP (pF ∅ qI (by show J (!cu (_=_))=J (cu (¬(_=_)));rw[decide_not])) (pF ∅ ∅ rfl)) q)
theorem AR(A:At T p X P)(S:HK T P ks)(g:Gd X.G P):ii (K0 (d+11)) 734 [.ref p] T (nv (Df X.G P ks)) T:=by
 ext d T p X P ks;exact mk (λQ=>Oq rfl) λQ q hc=>by
   unfold Df at q;refine lv (ux (bi (lz rfl) (tq A g.k g.ht g.hst g.hn g.hm)) bm) bm (λe1=>?_) λe1=>?_
   .have e1:AK X.G P=cj:=by simpa using e1
    rw[cG e1] at q;refine lv (bi (lz rfl) (vX (d:=d+4) A g.k)) bm (λe2=>ZB bv ?_) λe2=>pP bv ?_
    .rw[cG e2] at q;exact q
    .rw[cH (by rw[e2];decide)] at q;exact q
   have e1:¬AK X.G P=cj:=by simpa using e1
   rw[cH e1] at q;refine lv (Kb (oE 22 A.inst ∅ rfl) bv) bm (λe2=>pP bv ?_) λe2=>?_
   .rw[cG (cy e2)] at q;exact q
   rw[cH (cz e2)] at q;refine lv (bi (lc rfl (be ac f8)) (tY (d:=d+7) A S)) bm (λe3=>pP bv ?_) λe3=>?_
   .rw[cG (cy e3)] at q;exact q
   rw[cH (cz e3)] at q;refine lv (bi (lz rfl) (sV (d:=d+7) A)) bm (λe4=>pP bv ?_) λe4=>pq bv ?_
   .rw[cG e4] at q;exact q
   .rw[cH (by rw[e4];decide)] at q;exact q
theorem Fy(A:At T p X P)(S:HK T P ks)(g:Gd X.G P):ii (K0 (d+12)) 741 [.ref p] T (.str (Gz P (Df X.G P ks))) T:=by
 ext d T p X P ks;exact mk (λQ=>Fr rfl) λQ q hc=>by
   unfold Gz at q;refine bs (bi (lz rfl) (AR A S g)) (lv (oQ ∅ bv) bm (λe1=>pP BZ ?_) λe1=>?_)
   .rw[cG (cy e1)] at q;exact q
   rw[cH (cz e1)] at q;refine lv (tP ∅ bv) bm (λe2=>pP BZ ?_) λe2=>?_
   .rw[cG (cy e2)] at q;exact q
   rw[cH (cz e2)] at q;refine lv (oQ (qo A ∅) bv) bm (λe3=>pP BZ ?_) λe3=>pq BZ ?_
   .rw[cG (cy e3)] at q;exact q
   .rw[cH (cz e3)] at q;exact q
end
structure ZH where
 rows:Nat
 ep:Nat
 az:Nat
 row:List Nat
structure Zb (T:H) (z:Nat) (h:ZH) (sz n:Nat):Prop where
 inst:T[z]? =J (.inst 2 [(25,.ref h.rows),(21,.ref h.ep),(20,.ref h.az),(19,nv (1 <<< (15*sz+16)))])
 rows:T[h.rows]? =J (.list (h.row.map .ref))
 rl:h.row.length=15
 row:∀i p:Nat,h.row[i]? =J p->p<n/\T[p]? =J (.list (((cn sz).map λs=>1 <<< (i*sz+s)).map nv))
 az:T[h.az]? =J (.list (((cn 16).map λr=>1 <<< (15*sz+r)).map nv))
 low:z<n/\h.rows<n/\h.az<n
def blk(p:Nat)(X:uG)(P:Ps):H:=[psO p X P,.list (P.board.map nv),.list (P.aN.map nv),.list (P.aO.map nv),.list P.ay]
def st(a:H)(X:uG)(P:Ps)(c:H):H:=a++(blk a.length X P++c)
structure PA (a:H) (X:uG):Prop where
 geo:pT a X.g X.gh X.G X.n
 low:X.n<=a.length
 zob:∃h,Zb a X.z h X.G.size X.n
structure pL (G:pf) (P:Ps):Prop where
 bl:P.board.length=G.size
 kl:P.aN.length=7
 sl:P.aO.length=2
section
variable{K:pN}{e:nw}{a c T:H}{ea eb ec:E}{i j k n m p s:Nat}{v x:V}{X:uG}{P:Ps}{t:H}
theorem rZ(hi:i<5):(st a X P c)[a.length+i]? =(blk a.length X P)[i]? :=by
 unfold st;rw[cT (di _ _),d8,ae (by exact hi)]
theorem oD:(st a X P c)[a.length]? =J (psO a.length X P):=rZ (i:=0) ⋯
theorem BC(hi:i<5):(st a X P c).set (a.length+i) o=a++((blk a.length X P).set i o++c):=by
 unfold st;rw[eA _ _ (di _ _),d8,iY _ _ (by exact hi)]
theorem rL:st a X P c++t=st a X P (c++t):=by unfold st;rw[aa,aa]
theorem vc:(st a X P c).length=a.length+5+c.length:=by
 unfold st
 (rewrite [a6,a6,dI];try with_reducible rfl);rfl
theorem sM(h:i<a.length):(st a X P c)[i]? =a[i]? :=ae h
theorem rD:(st a X P c)[a.length+5+i]? =c[i]? :=by
 ext a c i X P;unfold st;rw[cT (by lia),cT (by show 5<=_;lia)];congr 1;show a.length+5+i - a.length - 5=i;lia
theorem PA.at(A:PA a X)(ok:Xx X.G P):At (st a X P c) a.length X P:=
 ⟨A.geo.app A.low _,A.low,oD,rZ (i:=1) ⋯,rZ (i:=2) ⋯,rZ (i:=3) ⋯,rZ (i:=4) ⋯,ok⟩
theorem DX{l:List Nat}(g:T[p]? =J (.list (l.map nv)))(hi:i<l.length)(hm:l.length<1000):pZ (.ref p) (nv i) (nv m) T=J (T.set p (.list ((l.set i m).map nv))):=by
 rw[DQ g (by rw[bj];exact hi) (by rw[bj];exact hm),lY]
theorem Qr(ok:pL X.G P)(hi:i<X.G.size)(sz:X.G.size<=21):pZ (.ref (a.length+1)) (nv i) (nv m) (st a X P c)=J (st a X {P with board:=P.board.set i m} c):=by
 rw[DX (rZ (i:=1) ⋯) (by rw[ok.bl];exact hi) (by rw[ok.bl];lia),BC ⋯];rfl
theorem PN(ok:pL X.G P)(hi:i<7):pZ (.ref (a.length+2)) (nv i) (nv m) (st a X P c)=J (st a X {P with aN:=P.aN.set i m} c):=by
 rw[DX (rZ (i:=2) ⋯) (by rw[ok.kl];exact hi) (by rw[ok.kl];decide),BC ⋯];rfl
theorem QU(ok:pL X.G P)(hi:i<2):pZ (.ref (a.length+3)) (nv i) (nv m) (st a X P c)=J (st a X {P with aO:=P.aO.set i m} c):=by
 rw[DX (rZ (i:=3) ⋯) (by rw[ok.sl];exact hi) (by rw[ok.sl];decide),BC ⋯];rfl
theorem sG(h:ER n v [(14,.ref X.g),(15,.ref X.z),(16,.ref (a.length+1)),(17,.ref (a.length+2)),(18,.ref (a.length+3)),(19,nv P.au),(20,nv P.az),(21,.int (-1)),(22,nv P.aA),(3,nv P.av),(23,nv P.key),(24,.ref (a.length+4))]=fs)
  (h2:a++([O.inst 1 fs,.list (P.board.map nv),.list (P.aN.map nv),.list (P.aO.map nv),.list P.ay]++c)=st a X P' c):rW (.ref a.length) n v (st a X P c)=J (st a X P' c):=by
 rw[KB oD (by show(12:Nat)<100;decide),h,<-h2];exact cI J (BC (i:=0) ⋯)
theorem Vu(A:PA a X)(B:db K ea e (st a X P c) (.ref a.length) (st a X P c))(C:db K eb e (st a X P c) (nv i) (st a X P c))(D:db K ec e (st a X P c) (nv s) (st a X P c))(hi:i<15)(hs:s<X.G.size):db K (.sub (.sub (.attr (.attr ea 15) 25) eb) ec) e (st a X P c) (nv (1 <<< (i*X.G.size+s))) (st a X P c):=by
 ext K e a c ea eb ec i s X P;obtain⟨h,aj⟩:=A.zob;obtain⟨z1,z2,z3⟩:=aj.low;have low:=A.low;have sz:=A.geo.ok.sz;have hr:i<h.row.length:=by rw[aj.rl];exact hi
 have hp:=aj.row i _ (a7 hr);have q:db K (.sub (.attr (.attr ea 15) 25) eb) e (st a X P c) (.ref h.row[i]) (st a X P c):=pz (oE 25 ((sM (cQ z1 low)).trans aj.inst) (oE 15 oD B rfl) rfl) C (io ((sM (cQ z2 low)).trans aj.rows)) (Ag (a7 hr)) (cX hi ⋯);have z:=tT ((sM (cQ hp.1 low)).trans hp.2) q D (by rw[bj,dv];exact hs) (by rw[bj,dv];lia);rw[ba,cY,fS hs] at z;exact z
end
def Ps.putP(G:pf)(P:Ps)(pc s:Nat):Ps:={P with board:=P.board.set s pc,aN:=P.aN.set (pc &&& 7) (P.kd (pc &&& 7) ||| 1 <<< s),aO:=P.aO.set (pc >>> 3) (P.sd (pc >>> 3) ||| 1 <<< s),key:=P.key ^^^ 1 <<< (pc*G.size+s)}
def Ps.takeP(G:pf)(P:Ps)(pc s:Nat):Ps:={P with board:=P.board.set s 0,aN:=P.aN.set (pc &&& 7) (P.kd (pc &&& 7) ^^^ 1 <<< s),aO:=P.aO.set (pc >>> 3) (P.sd (pc >>> 3) ^^^ 1 <<< s),key:=P.key ^^^ 1 <<< (pc*G.size+s)}
def Ps.b6(G:pf)(P:Ps)(pc u v:Nat):Ps:={P with board:=(P.board.set u 0).set v pc,aN:=P.aN.set (pc &&& 7) (P.kd (pc &&& 7) ^^^ (1 <<< u ||| 1 <<< v)),aO:=P.aO.set (pc >>> 3) (P.sd (pc >>> 3) ^^^ (1 <<< u ||| 1 <<< v)),key:=P.key ^^^ (1 <<< (pc*G.size+u) ^^^ 1 <<< (pc*G.size+v))}
section
variable{K:pN}{e:nw}{a c T:H}{ea eb ec:E}{i j k n m p s:Nat}{v x:V}{X:uG}{P:Ps}{t:H}{r:Ss}{Q:QS}{o:Fk}
theorem LK(ok:pL X.G P)(B:db K ea e (st a X P c) (.ref a.length) (st a X P c))(I:db K eb e (st a X P c) (nv j) (st a X P c))(hj:j<7)(A:db K ec e (st a X P c) (nv m) (st a X P c))(l:Cf o (nv (P.kd j)) (nv m) (st a X P c)=J (nv n,st a X P c))
  (R:oI K r e (st a X {P with aN:=P.aN.set j n} c) Q):oI K (.cons (.aug (.sub (.attr ea 17) eb) o ec) r) e (st a X P c) Q:=
 Qd (oE 17 oD B rfl) I (rZ (i:=2) ⋯) (v9 (by rw[ok.kl];exact hj)) (cX hj ⋯) A l (PN ok hj) R
theorem K6(ok:pL X.G P)(B:db K ea e (st a X P c) (.ref a.length) (st a X P c))(I:db K eb e (st a X P c) (nv j) (st a X P c))(hj:j<2)(A:db K ec e (st a X P c) (nv m) (st a X P c))(l:Cf o (nv (P.sd j)) (nv m) (st a X P c)=J (nv n,st a X P c))
  (R:oI K r e (st a X {P with aO:=P.aO.set j n} c) Q):oI K (.cons (.aug (.sub (.attr ea 18) eb) o ec) r) e (st a X P c) Q:=
 Qd (oE 18 oD B rfl) I (rZ (i:=3) ⋯) (v9 (by rw[ok.sl];exact hj)) (cX hj ⋯) A l (QU ok hj) R
theorem uD(B:db K ea e (st a X P c) (.ref a.length) (st a X P c))(A:db K ec e (st a X P c) (nv m) (st a X P c))(R:oI K r e (st a X {P with key:=P.key ^^^ m} c) Q):oI K (.cons (.aug (.attr ea 23) .bxor ec) r) e (st a X P c) Q:=
 HY B oD rfl A Ex (sG (P':={P with key:=P.key ^^^ m}) rfl rfl) R
theorem Ib(ok:pL X.G P)(hi:i<X.G.size)(sz:X.G.size<=21)(B:db K ea e (st a X P c) (.ref a.length) (st a X P c))(I:db K eb e (st a X P c) (nv i) (st a X P c))(A:db K ec e (st a X P c) (nv m) (st a X P c))(R:oI K r e (st a X {P with board:=P.board.set i m} c) Q):oI K (.cons (.assign (.sub (.attr ea 16) eb) ec) r) e (st a X P c) Q:=
 uB A (oE 16 oD B rfl) I (Qr ok hi sz) R
theorem C3(ok:pL X.G P)(hi:i<X.G.size)(sz:X.G.size<=21)(B:db K ea e (st a X P c) (.ref a.length) (st a X P c))(I:db K eb e (st a X P c) (nv i) (st a X P c)):db K (.sub (.attr ea 16) eb) e (st a X P c) (nv (P.board.getD i 0)) (st a X P c):=
 tT (rZ (i:=1) ⋯) (oE 16 oD B rfl) I (by rw[ok.bl];exact hi) (by rw[ok.bl];lia)
end
section
variable{d:Nat}{a c:H}{X:uG}{P:Ps}
structure vb (pc:Nat):Prop where
 l:pc<15
 k:pc &&& 7<7
theorem vb.s(h:vb pc):pc >>> 3<2:=by
 have:=h.l;rw[dC];lia
theorem uY(A:PA a X)(ok:pL X.G P)(hp:vb pc)(hs:s<X.G.size):ii (K0 (d+2)) 307 [.ref a.length,nv pc,nv s] (st a X P c) .none (st a X (P.putP X.G pc s) c):=
 have sz:=A.geo.ok.sz
 mk (λQ=>IX rfl) λQ q hc=>bs (qu ac ∅ ⋯ (cS (dJ hs) (cS sz ⋯))) (Ib ok hs sz ∅ ∅ ∅
  (LK (P:={P with board:=P.board.set s pc}) ⟨by rw[<- ok.bl];exact cR,ok.kl,ok.sl⟩ ∅ (bi (lz rfl) (xN)) hp.k ∅ r9
  (K6 (P:={P with board:=P.board.set s pc,aN:=P.aN.set (pc &&& 7) (P.kd (pc &&& 7) ||| 1 <<< s)}) ⟨by rw[<- ok.bl];exact cR,by rw[<- ok.kl];exact cR,ok.sl⟩ ∅ (bi (lz rfl) (xI)) hp.s ∅ r9
  (uD ∅ (Vu A ∅ ∅ ∅ hp.l hs) (om (u5 q))))))
theorem wa(A:PA a X)(ok:pL X.G P)(hp:vb (P.board.getD s 0))(hs:s<X.G.size):ii (K0 (d+2)) 314 [.ref a.length,nv s] (st a X P c) (nv (P.board.getD s 0)) (st a X (P.takeP X.G (P.board.getD s 0) s) c):=by
 ext d a c X P s;exact have sz:=A.geo.ok.sz
  mk (λQ=>H4 rfl) λQ q hc=>bs (C3 ok hs sz ∅ ∅) (bs (qu ac ∅ ⋯ (cS (dJ hs) (cS sz ⋯))) (Ib ok hs sz ∅ ∅ bv
   (LK (P:={P with board:=P.board.set s 0}) ⟨by rw[<- ok.bl];exact cR,ok.kl,ok.sl⟩ ∅ (bi (lz rfl) (xN)) hp.k ∅ Ex
   (K6 (P:={P with board:=P.board.set s 0,aN:=P.aN.set (P.board.getD s 0 &&& 7) (P.kd (P.board.getD s 0 &&& 7) ^^^ 1 <<< s)}) ⟨by rw[<- ok.bl];exact cR,by rw[<- ok.kl];exact cR,ok.sl⟩ ∅ (bi (lz rfl) (xI)) hp.s ∅ Ex
   (uD ∅ (Vu A ∅ ∅ ∅ hp.l hs) (pq ∅ q))))))
theorem yr(A:PA a X)(ok:pL X.G P)(hp:vb (P.board.getD u 0))(hu:u<X.G.size)(hs:s<X.G.size):ii (K0 (d+2)) 321 [.ref a.length,nv u,nv s] (st a X P c) .none (st a X (P.b6 X.G (P.board.getD u 0) u s) c):=by
 ext d a c X P u s;exact have sz:=A.geo.ok.sz
  have low:=A.low
  mk (λQ=>FB rfl) λQ q hc=>by
   obtain⟨h,aj⟩:=A.zob;obtain⟨z1,z2,z3⟩:=aj.low;have hr:P.board.getD u 0<h.row.length:=by rw[aj.rl];exact hp.l
   have hq:=aj.row _ _ (a7 hr);refine bs (C3 ok hu sz ∅ ∅) (bs (qJ (qu ac ∅ ⋯ (cS (dJ hu) (cS sz ⋯))) (qu ac ∅ ⋯ (cS (dJ hs) (cS sz ⋯)))) (Ib ok hu sz ∅ ∅ bv
    (Ib (P:={P with board:=P.board.set u 0}) ⟨by rw[<- ok.bl];exact cR,ok.kl,ok.sl⟩ hs sz ∅ ∅ ∅ (LK (P:={P with board:=(P.board.set u 0).set s (P.board.getD u 0)}) ⟨by rw[<- ok.bl];exact cR.trans cR,ok.kl,ok.sl⟩ ∅ (bi (lz rfl) (xN)) hp.k ∅ Ex
    (K6 (P:={P with board:=(P.board.set u 0).set s (P.board.getD u 0),aN:=P.aN.set (P.board.getD u 0 &&& 7) (P.kd (P.board.getD u 0 &&& 7) ^^^ (1 <<< u ||| 1 <<< s))}) ⟨by rw[<- ok.bl];exact cR.trans cR,by rw[<- ok.kl];exact cR,ok.sl⟩ ∅ (bi (lz rfl) (xI)) hp.s ∅ Ex ?_)))))
   have row:∀{K:pN} {e:nw} {P':Ps} {ea eb:E} {i:Nat},i<X.G.size->db K ea e (st a X P' c) (.ref h.row[P.board.getD u 0]) (st a X P' c)->db K eb e (st a X P' c) (nv i) (st a X P' c)->db K (.sub ea eb) e (st a X P' c) (nv (1 <<< (P.board.getD u 0*X.G.size+i))) (st a X P' c):=λ{K e P' ea eb i} hi C D=>by
    have z:=tT ((sM (cQ hq.1 low)).trans hq.2) C D (by rw[bj,dv];exact hi) (by rw[bj,dv];lia);rw[ba,cY,fS hi] at z;exact z
   exact bs (pz (oE 25 ((sM (cQ z1 low)).trans aj.inst) (oE 15 oD ∅ rfl) rfl) ∅ (io ((sM (cQ z2 low)).trans aj.rows)) (Ag (a7 hr)) (cX hp.l ⋯))
    (uD ∅ (zb (row hu ∅ ∅) (row hs ∅ ∅)) (om (u5 q)))
end
def xC(G:pf)(P:Ps)(o g:Nat):Nat:=P.az - (P.az &&& (G.lost.getD o 0 ||| G.lost.getD g 0))
def Ps.setR(G:pf)(P:Ps)(r:Nat):Ps:={P with az:=r,key:=P.key ^^^ (1 <<< (15*G.size+P.az) ^^^ 1 <<< (15*G.size+r))}
def takeH(G:pf)(P:Ps)(t g:Nat):Ps:=if t≠0 then {P.takeP G t g with aA:=0} else P
def qS(G:pf)(P:Ps)(pc sp pr o g:Nat):Ps:=if sp=1 then(P.takeP G pc o).putP G pr g else P.b6 G pc o g
def wI(P:Ps)(pc:Nat):Ps:=if pc &&& 7=1 then {P with aA:=0} else P
def F8(P:Ps)(sd:Nat):Ps:=if sd=1 then {P with av:=P.av+1} else P
def PO(G:pf)(P:Ps)(sd:Nat):Ps:={P with au:=1 - sd,key:=P.key ^^^ 1 <<< (15*G.size+16)}
def PC(m:Nat):Nat:=(m >>> 12 &&& 3)+2
def Fo(P:Ps)(q:Nat):Ps:={P with ay:=P.ay++[.ref q],aA:=P.aA+1}
def doP(G:pf)(P:Ps)(m q:Nat):Ps:=
 PO G (F8 ((wI (qS G (takeH G (Fo P q) (P.board.getD (qG m) 0) (qG m)) (P.board.getD (qW m) 0) (u0 m) (P.au*8+PC m) (qW m) (qG m)) (P.board.getD (qW m) 0)).setR G (xC G P (qW m) (qG m))) P.au) P.au
structure Xk (G:pf) (P:Ps) (m:Nat):Prop where
 len:pL G P
 f:qW m<G.size
 t:qG m<G.size
 ne:qW m≠qG m
 pc:vb (P.board.getD (qW m) 0)
 own:P.board.getD (qW m) 0≠0/\P.board.getD (qW m) 0 >>> 3=P.au
 tk:P.board.getD (qG m) 0≠0->vb (P.board.getD (qG m) 0)
 sp:u0 m=0\/u0 m=1
 pr:u0 m=1->vb (P.au*8+PC m)
 nd:P.board.getD (qW m) 0 &&& 7=1->(qG m:Int) - qW m≠2*G.files/\(qW m:Int) - qG m≠2*G.files
 rt:P.az<16
 hl:P.ay.length<900
 sd:P.au<2
section
variable{K:pN}{e:nw}{h h1 h2:H}{a c:H}{ea eb ec:E}{i j k n m p s:Nat}{v x:V}{xs:List V}{X:uG}{P:Ps}{t:Bool}{r sa sb:Ss}{Q:QS}{es:Es}
theorem BY(C:db K ec e h x h)(l:tr x=J t)(B:t=b9->oI K r e h2 Q->oI K sa e h (sw K r Q))(B2:t=cj->h=h2)(R:oI K r e h2 Q):oI K (.cons (.ite ec sa .nil) r) e h Q:=
 lv C l (λe1=>B e1 R) λe1=>B2 e1▸R
theorem Qp(C:db K ec e h x h)(l:tr x=J t)(B:t=b9->oI K r e h2 Q->oI K sa e h (sw K r Q))(B2:t=cj->oI K r e h2 Q->oI K sb e h (sw K r Q))(R:oI K r e h2 Q):oI K (.cons (.ite ec sa sb) r) e h Q:=
 uJ C l (λe1=>B e1 R) λe1=>B2 e1 R
theorem HS(A:db K ea e h (nv n) h1)(B:oI K r e h1 Q):oI K (.cons (.expr ea) r) e h Q:=⟨A.go _ B.go⟩
theorem y0(A:db K eb e (st a X P c) v (st a X P c))(B:db K ea e (st a X P c) (.ref a.length) (st a X P c))(l:rW (.ref a.length) k v (st a X P c)=J (st a X P' c))(R:oI K r e (st a X P' c) Q):oI K (.cons (.assign (.attr ea k) eb) r) e (st a X P c) Q:=
 RG A B l R
theorem wz(A:F7 K es e (st a X P c) xs (st a X P c))(l:xs.length<=1000):db K (.tup es) e (st a X P c) (.ref (a.length+5+c.length)) (st a X P (c++[.tup xs])):=by
 have z:=sZ A l;rw[rL,vc] at z;exact z
theorem Wm(A:db K ea e (st a X P c) (.ref a.length) (st a X P c))(B:db K eb e (st a X P c) v (st a X P c'))(l:P.ay.length<1000):db K (.append (.attr ea 24) eb) e (st a X P c) .none (st a X {P with ay:=P.ay++[v]} c'):=by
 have z:=vp (oE 24 oD A rfl) (rZ (i:=4) ⋯) B (rZ (i:=4) ⋯) l;rw[BC ⋯] at z;exact z
theorem ZW(A:PA a X)(B:db K ea e (st a X P c) (.ref a.length) (st a X P c))(C:db K eb e (st a X P c) (nv i) (st a X P c))(hi:i<16):db K (.sub (.attr (.attr ea 15) 20) eb) e (st a X P c) (nv (1 <<< (15*X.G.size+i))) (st a X P c):=by
 ext K e a c ea eb i X P;obtain⟨h,aj⟩:=A.zob;obtain⟨z1,z2,z3⟩:=aj.low;have z:=tT ((sM (cQ z3 A.low)).trans aj.az) (oE 20 ((sM (cQ z1 A.low)).trans aj.inst) (oE 15 oD B rfl) rfl) C (by rw[bj,dv];exact hi) (by rw[bj,dv];decide);rw[ba,cY,fS hi] at z;exact z
theorem aa4(A:PA a X)(B:db K ea e (st a X P c) (.ref a.length) (st a X P c)):db K (.attr (.attr ea 15) 19) e (st a X P c) (nv (1 <<< (15*X.G.size+16))) (st a X P c):=by
 obtain⟨h,aj⟩:=A.zob;obtain⟨z1,z2,z3⟩:=aj.low;exact oE 19 ((sM (cQ z1 A.low)).trans aj.inst) (oE 15 oD B rfl) rfl
theorem PA.g(A:PA a X):pT (st a X P c) X.g X.gh X.G X.n:=A.geo.app A.low _
end
section
variable{d:Nat}{a c:H}{X:uG}{P:Ps}{m:Nat}
theorem Dj{K:pN}(B:db K ea e (st a X P c) (.ref a.length) (st a X P c)):db K (.attr ea 14) e (st a X P c) (.ref X.g) (st a X P c):=oE 14 oD B rfl
theorem FH(A:PA a X)(M:Xk X.G P m):ii (K0 (d+2)) 748 [.ref a.length,nv m] (st a X P c) (nv (P.board.getD (qW m) 0)) (st a X P c):=by
 ext d a c X P m;exact mk (λQ=>FI rfl) λQ q hc=>bs (v:=nv (qW m)) (bi (lz rfl) (uV)) (lv (sQ (Kb ∅ (oE 2 A.g.inst (Dj ∅) rfl)) (Kb (n:=qG m) (bi (lz rfl) (vm)) (oE 2 A.g.inst (Dj ∅) rfl))) bm
   (λe1=>cJ e1 (by have:=M.f;have:=M.t;simp;lia)) λw=>bs (C3 M.len M.f A.geo.ok.sz ∅ ∅) (lv (sQ (oQ ∅ bv) (tP (bi (lz rfl) (xI)) (oE 19 oD ∅ rfl))) bm
   (λe1=>cJ e1 (by have:=M.own;simp only[cW,cA,not_or];exact⟨this.1,λz=>z this.2⟩)) λw=>pq ∅ q))
theorem wG(h:u0 m≠2):ii (K0 (d+2)) 755 [v,nv m] T (nv (qG m)) T:=
 mk (λQ=>Cl rfl) λQ q hc=>bs (v:=nv (qG m)) (bi (lz rfl) (vm)) (lv (tP (n:=u0 m) (bi (lz rfl) (sC)) bv) bm (λw=>pP ∅ q) λe1=>cJ h (cz e1))
theorem CB(A:PA a X){sd o g:Nat}(h:(g:Int) - o≠2*X.G.files/\(o:Int) - g≠2*X.G.files):ii (K0 (d+1)) 769 [.ref a.length,nv sd,nv o,nv g] (st a X P c) (.int (-1)) (st a X P c):=
 have f7:=A.geo.ok.f7
 mk (λQ=>B8 rfl) λQ q hc=>by
  have two:∀{K:pN} {e:nw},e[4]? =J (J (nv X.G.files))->db K (.bin .mul (.int 2) (.loc 4)) e (st a X P c) (nv (2*X.G.files)) (st a X P c):=λl=>sr ac (r_loc l) ⋯ (by lia);have b1:((g:Int) - o != ((2*X.G.files:Nat):Int))=b9:=by rw[bne_iff_ne];have:=h.1;lia
  have b2:((o:Int) - g != ((2*X.G.files:Nat):Int))=b9:=by rw[bne_iff_ne];have:=h.2;lia
  exact bs (oE 0 A.g.inst (Dj ∅) rfl) (lv (sP (s:=b9) (t:=b9) (pF (x:=.int ((g:Int) - o)) (uF ∅ ∅ rfl) (two rfl) (cI J b1)) (pF (x:=.int ((o:Int) - g)) (uF ∅ ∅ rfl) (two rfl) (cI J b2))) bm
   (λw=>pP (zl (k:=1) qI) q) λe1=>by cases e1)
theorem Fz(A:PA a X)(ho:o<X.G.size)(hg:g<X.G.size):ii (K0 (d+1)) 776 [.ref a.length,nv o,nv g] (st a X P c) (nv (xC X.G P o g)) (st a X P c):=
 have ll:=A.geo.ok.ll
 have sz:=A.geo.ok.sz
 mk (λQ=>Fx rfl) λQ q hc=>bs (qJ (tT A.g.lost (oE 13 A.g.inst (Dj ∅) rfl) ∅ (by rw[ll];exact ho) (by lia)) (tT A.g.lost (oE 13 A.g.inst (Dj ∅) rfl) ∅ (by rw[ll];exact hg) (by lia)))
  (pq (oM (oE 20 oD ∅ rfl) (nb (oE 20 oD ∅ rfl) ∅) dG) q)
theorem Kv:ii (K0 (d+1)) 783 [.ref a.length] (st a X P c) .none (st a X P c):=
 mk (λQ=>EQ rfl) λQ q hc=>lv (t:=cj) (pF (oE 21 oD ∅ rfl) qI rfl) rfl (λe1=>by cases e1) λw=>om (u5 q)
theorem Q0:ii (K0 (d+1)) 790 [.ref a.length,.int (-1)] (st a X P c) .none (st a X P c):=
 mk (λQ=>G0 rfl) λQ q hc=>lv (t:=cj) (pF ∅ qI rfl) rfl (λe1=>by cases e1) λw=>y0 (P':=P) ∅ ∅ (sG rfl rfl) (om (u5 q))
theorem Hw(A:PA a X)(h1:P.az<16)(h2:r<16):ii (K0 (d+1)) 797 [.ref a.length,nv r] (st a X P c) .none (st a X (P.setR X.G r) c):=
 mk (λQ=>AU rfl) λQ q hc=>BY (tP ∅ (oE 20 oD ∅ rfl)) bm
  (λe1 R=>uD ∅ (zb (ZW A ∅ (oE 20 oD ∅ rfl) h1) (ZW A ∅ ∅ h2)) (y0 (P':=P.setR X.G r) ∅ ∅ (sG rfl rfl) (ld R)))
  (λe1=>by
   have:r=P.az:=cM λt=>(cz e1) t;subst this;unfold Ps.setR;rw[ji,iM]) (om (u5 q))
end
theorem pL.take(h:pL G P)(pc s:Nat):pL G (P.takeP G pc s):=⟨cR.trans h.bl,cR.trans h.kl,cR.trans h.sl⟩
theorem pL.put(h:pL G P)(pc s:Nat):pL G (P.putP G pc s):=⟨cR.trans h.bl,cR.trans h.kl,cR.trans h.sl⟩
theorem pL.shift(h:pL G P)(pc u s:Nat):pL G (P.b6 G pc u s):=⟨cR.trans (cR.trans h.bl),cR.trans h.kl,cR.trans h.sl⟩
theorem pL.same(h:pL G P)(e1:P'.board=P.board)(e2:P'.aN=P.aN)(e3:P'.aO=P.aO):pL G P':=⟨e1▸h.bl,e2▸h.kl,e3▸h.sl⟩
theorem pL.takeH(h:pL G P)(t g:Nat):pL G (takeH G P t g):=by
 unfold Mine.Lake.takeH;split
 .exact(h.take t g).same rfl rfl rfl
 .exact h
theorem Ws{l:List Nat}(h:i≠j):(l.set i x).getD j 0=l.getD j 0:=by
 rw[ba,eN h,<-ba]
def Eu:O:=.tup [.int (-1),.int (-1)]
def KD(P:Ps)(m:Nat):O:=.tup [nv m,nv (P.board.getD (qG m) 0),nv P.az,.int (-1),nv P.aA,nv P.key]
section
variable{K:pN}{e:nw}{a c:H}{ea eb ec:E}{k n:Nat}{X:uG}{P:Ps}{r:Ss}{Q:QS}
theorem N5(A:db K ea e (st a X P c) (.ref a.length) (st a X P c))(B:db K eb e (st a X P c) (nv n) (st a X P c))(R:oI K r e (st a X {P with aA:=P.aA+n} c) Q):oI K (.cons (.aug (.attr ea 22) .add eb) r) e (st a X P c) Q:=
 HY A oD rfl B B3 (sG (P':={P with aA:=P.aA+n}) rfl rfl) R
theorem N7(A:db K ea e (st a X P c) (.ref a.length) (st a X P c))(B:db K eb e (st a X P c) (nv n) (st a X P c))(R:oI K r e (st a X {P with av:=P.av+n} c) Q):oI K (.cons (.aug (.attr ea 3) .add eb) r) e (st a X P c) Q:=
 HY A oD rfl B B3 (sG (P':={P with av:=P.av+n}) rfl rfl) R
theorem Hv(A:db K ea e (st a X P c) (.ref a.length) (st a X P c))(B:db K eb e (st a X P c) (nv n) (st a X P c))(R:oI K r e (st a X {P with aA:=n} c) Q):oI K (.cons (.assign (.attr ea 22) eb) r) e (st a X P c) Q:=
 y0 (P':={P with aA:=n}) B A (sG rfl rfl) R
theorem Ky(A:db K ea e (st a X P c) (.ref a.length) (st a X P c))(B:db K eb e (st a X P c) (nv n) (st a X P c))(R:oI K r e (st a X {P with au:=n} c) Q):oI K (.cons (.assign (.attr ea 19) eb) r) e (st a X P c) Q:=
 y0 (P':={P with au:=n}) B A (sG rfl rfl) R
end
section
variable{d:Nat}{a c:H}{X:uG}{P:Ps}{m:Nat}
theorem OT(A:PA a X)(M:Xk X.G P m):ii (K0 (d+3)) 804 [.ref a.length,nv m] (st a X P c) .none (st a X (doP X.G P m (a.length+5+(c++[Eu]).length)) (c++[Eu]++[KD P m])):=by
 ext d a c X P m;exact mk (λQ=>Ot rfl) λQ q hc=>by
   have hf:=M.f;have ht:=M.t;have own:=M.own;have tk:=M.tk;have sd:=M.sd;have nd:=M.nd;have pcb:(takeH X.G (Fo P (a.length+5+(c++[Eu]).length)) (P.board.getD (qG m) 0) (qG m)).board.getD (qW m) 0=P.board.getD (qW m) 0:=by
    unfold takeH;split
    .exact Ws (dT M.ne)
    .rfl
   refine bs (bi (lc rfl (lz rfl)) (FH A M)) (bs (oE 19 oD ∅ rfl) (bs (v:=nv (qW m)) (bi (lz rfl) (uV)) (bs (v:=nv (qG m)) (bi (lz rfl) (vm)) (bs (v:=nv (u0 m)) (bi (lz rfl) (sC))
    (bs (h1:=st a X P (c++[Eu])) (wz (be (zl (k:=1) qI) (be (zl (k:=1) qI) f8)) (by show(2:Nat)<=1000;decide)) (lv (oQ ∅ bv) bm (λe1=>cJ (cy e1) (by rcases M.sp with h | h<;>rw[h]<;>decide)) λw=>?_))))))
   refine bs (bi (lc rfl (lz rfl)) (wG (by rcases M.sp with h | h<;>rw[h]<;>decide))) (bs (C3 M.len ht A.geo.ok.sz ∅ ∅) ?_);refine oO (Wm ∅ (wz (lc rfl (lc rfl (be (oE 20 oD ∅ rfl) (be (oE 21 oD ∅ rfl) (be (oE 22 oD ∅ rfl) (be (oE 23 oD ∅ rfl) f8)))))) (by show(6:Nat)<=1000;decide)) (cX M.hl ⋯)) ?_;refine oO (bi (lz rfl) (Kv)) (N5 ∅ ac ?_);generalize a.length+5+(c++[Eu]).length=qa at*;have L1:pL X.G (Fo P qa):=M.len.same rfl rfl rfl;refine BY (h2:=st a X (takeH X.G (Fo P qa) (P.board.getD (qG m) 0) (qG m)) (c++[Eu]++[KD P m])) (tP ∅ bv) bm (λe1 R=>?_) (λe1=>?_) ?_
   .have e1:=cy e1;have:=wa (d:=d) (c:=c++[Eu]++[KD P m]) A L1 (tk e1) ht;unfold takeH at R;rw[cG e1] at R;exact HS (bi (lc rfl (lz rfl)) this) (Hv ∅ ac (ld R))
   .unfold takeH;rw[cH (cz e1)];rfl
   have L2:=L1.takeH (P.board.getD (qG m) 0) (qG m);have hd:doP X.G P m qa=PO X.G (F8 ((wI (qS X.G (takeH X.G (Fo P qa) (P.board.getD (qG m) 0) (qG m)) (P.board.getD (qW m) 0) (u0 m) (P.au*8+PC m) (qW m) (qG m)) (P.board.getD (qW m) 0)).setR X.G (xC X.G P (qW m) (qG m))) P.au) P.au:=rfl;have kr:xC X.G P (qW m) (qG m)=xC X.G (takeH X.G (Fo P qa) (P.board.getD (qG m) 0) (qG m)) (qW m) (qG m):=by
    unfold takeH;split<;>rfl
   have rt:(takeH X.G (Fo P qa) (P.board.getD (qG m) 0) (qG m)).az=P.az:=by
    unfold takeH;split<;>rfl
   rw[hd,kr] at q;have rt':=M.rt;rw[<- rt] at rt';generalize takeH X.G (Fo P qa) (P.board.getD (qG m) 0) (qG m)=P2 at*;clear hd kr rt;obtain⟨cc,hcc⟩:=(⟨_,rfl⟩:∃cc,cc=c++[Eu]++[KD P m])
   rw[<- hcc] at q ⊢;have pcok:vb (P2.board.getD (qW m) 0):=by rw[pcb];exact M.pc
   refine Qp (h2:=st a X (qS X.G P2 (P.board.getD (qW m) 0) (u0 m) (P.au*8+PC m) (qW m) (qG m)) cc) (oQ ∅ bv) bm (λe1 R=>?_) (λe1 R=>?_) ?_
   .have e1:=cy e1;have k1:=wa (d:=d) (c:=cc) A L2 pcok hf;unfold qS at R;rw[cG e1] at R;rw[pcb] at k1;exact HS (bi (lc rfl (lz rfl)) k1) (oO (bi (lc rfl (be (bi (lc rfl (be (bi (v:=nv (PC m)) (lz rfl) (Ha e1)) f8)) (z5 (by lia))) (lz rfl))) (uY A (L2.take _ _) (M.pr e1) ht)) (ld R))
   .have e1:=cz e1;have k1:=yr (d:=d) (c:=cc) A L2 pcok hf ht;unfold qS at R;rw[cH e1] at R;rw[pcb] at k1;exact oO (bi (lc rfl (lc rfl (lz rfl))) k1) (ld R)
   have kr:xC X.G P2 (qW m) (qG m)=xC X.G (wI (qS X.G P2 (P.board.getD (qW m) 0) (u0 m) (P.au*8+PC m) (qW m) (qG m)) (P.board.getD (qW m) 0)) (qW m) (qG m):=by
    unfold wI qS;split<;>split<;>rfl
   have rt2:(wI (qS X.G P2 (P.board.getD (qW m) 0) (u0 m) (P.au*8+PC m) (qW m) (qG m)) (P.board.getD (qW m) 0)).az=P2.az:=by
    unfold wI qS;split<;>split<;>rfl
   rw[kr] at q;rw[<- rt2] at rt';clear kr rt2;generalize qS X.G P2 (P.board.getD (qW m) 0) (u0 m) (P.au*8+PC m) (qW m) (qG m)=P3 at*;refine lv (oQ ∅ bv) bm (λe1=>cJ (cy e1) (by rcases M.sp with h | h<;>rw[h]<;>decide)) λw=>?_;refine BY (h2:=st a X (wI P3 (P.board.getD (qW m) 0)) cc) (oQ (bi (lz rfl) (xN)) bv) bm (λe1 R=>?_) (λe1=>?_) ?_
   .have e1:=cy e1;unfold wI at R;rw[cG e1] at R;exact Hv ∅ ac (oO (bi (lc rfl (be (bi (lc rfl (lc rfl (lc rfl (lz rfl)))) (CB A (nd e1))) f8)) (Q0)) (ld R))
   .unfold wI;rw[cH (cz e1)]
   generalize wI P3 (P.board.getD (qW m) 0)=P4 at*;refine oO (bi (lc rfl (be (bi (lc rfl (lc rfl (lz rfl))) (Fz A hf ht)) f8)) (Hw A rt' (ar (eO _ _) rt'))) ?_;generalize P4.setR X.G (xC X.G P4 (qW m) (qG m))=P5 at*;refine BY (h2:=st a X (F8 P5 P.au) cc) (oQ ∅ bv) bm (λe1 R=>?_) (λe1=>?_) (Ky ∅ (oM ac ∅ (dk sd)) (uD ∅ (aa4 A ∅) (om (u5 q))))
   .unfold F8 at R;rw[cG (cy e1)] at R;exact N7 ∅ ac (ld R)
   .unfold F8;rw[cH (cz e1)]
end
def Dz(P:Ps)(sd:Nat):Ps:=if sd=1 then {P with av:=P.av - 1} else P
def FY(G:pf)(P:Ps)(t g:Nat):Ps:=if t≠0 then P.putP G t g else P
def DV(P:Ps)(hs:List V):Ps:={P with ay:=hs,au:=1 - P.au}
def unP(G:pf)(P:Ps)(hs:List V)(m tk rt hf ky:Nat):Ps:=
 {Dz (FY G (qS G (DV P hs) (P.board.getD (qG m) 0) (u0 m) ((1 - P.au)*8+1) (qG m) (qW m)) tk (qG m)) (1 - P.au) with az:=rt,aA:=hf,key:=ky}
structure Zq (G:pf) (P:Ps) (m tk:Nat):Prop where
 len:pL G P
 f:qW m<G.size
 t:qG m<G.size
 pc:vb (P.board.getD (qG m) 0)
 tk:tk≠0->vb tk
 sp:u0 m=0\/u0 m=1
 hl:P.ay.length<900
 sd:P.au<2
 fu:1<=P.av
section
variable{K:pN}{e:nw}{a c:H}{ea eb ec:E}{k n:Nat}{v:V}{X:uG}{P:Ps}{r:Ss}{Q:QS}{hs:List V}
theorem ZM(A:db K ea e (st a X P c) (.ref a.length) (st a X P c))(h:P.ay=hs++[v])(l:P.ay.length<900):db K (.pop (.attr ea 24)) e (st a X P c) v (st a X {P with ay:=hs} c):=
 have B:db K (.attr ea 24) e (st a X P c) (.ref (a.length+4)) (st a X P c):=oE 24 oD A rfl
 ⟨λQ q=>B.go _ (by
  have e1:(st a X P c)[a.length+4]? =J (.list P.ay):=rZ (i:=4) ⋯;have e2:P.ay.length<=1000:=by lia
  rw[K9 (v:=v) e1 (by rw[h,hI];rfl) e2,BC ⋯,show P.ay.dropLast=hs by rw[h,iZ]];exact q)⟩
theorem NT(A:db K ea e (st a X P c) (.ref a.length) (st a X P c))(B:db K eb e (st a X P c) (nv n) (st a X P c))(l:n<=P.av)(R:oI K r e (st a X {P with av:=P.av - n} c) Q):oI K (.cons (.aug (.attr ea 3) .sub eb) r) e (st a X P c) Q:=
 HY A oD rfl B (Zj l) (sG (P':={P with av:=P.av - n}) rfl rfl) R
theorem JB(A:db K ea e (st a X P c) (.ref a.length) (st a X P c))(B:db K eb e (st a X P c) (nv n) (st a X P c))(R:oI K r e (st a X {P with az:=n} c) Q):oI K (.cons (.assign (.attr ea 20) eb) r) e (st a X P c) Q:=
 y0 (P':={P with az:=n}) B A (sG rfl rfl) R
theorem ZF(A:db K ea e (st a X P c) (.ref a.length) (st a X P c))(B:db K eb e (st a X P c) (nv n) (st a X P c))(R:oI K r e (st a X {P with key:=n} c) Q):oI K (.cons (.assign (.attr ea 23) eb) r) e (st a X P c) Q:=
 y0 (P':={P with key:=n}) B A (sG rfl rfl) R
end
section
variable{d:Nat}{a c:H}{X:uG}{P:Ps}{m:Nat}
theorem pc8(h:s<2):vb (s*8+1):=by
 rcases (u2 (by assumption:s<2)) with h | h<;>subst h<;>exact⟨by decide,by decide⟩
theorem Jn{tk rt hf ky q0:Nat}{hs:List V}(A:PA a X)(M:Zq X.G P m tk)(hh:P.ay=hs++[.ref q0])(hq:(st a X P c)[q0]? =J (.tup [nv m,nv tk,nv rt,.int (-1),nv hf,nv ky]))(h4:q0<a.length\/a.length+5<=q0):
  ii (K0 (d+3)) 811 [.ref a.length] (st a X P c) .none (st a X (unP X.G P hs m tk rt hf ky) c):=by
 ext d a c X P m tk rt hf ky q0 hs;exact mk (λQ=>I7 rfl) λQ q hc=>by
   have mf:=M.f;have mt:=M.t;have sd:=M.sd;have hl:=M.hl;have c0:0<P.ay.length:=by rw[hh,a6];exact fJ _
   refine lv (oQ (t5 (oE 24 oD ∅ rfl) (io (rZ (i:=4) ⋯)) (by lia)) ac) bm (λe1=>cJ (cy e1) (fh c0)) λw=>?_;have hq':(st a X {P with ay:=hs} c)[q0]? =J (.tup [nv m,nv tk,nv rt,.int (-1),nv hf,nv ky]):=by
    rcases h4 with h | h
    .rw[sM h] at hq ⊢;exact hq
    .rw[show q0=a.length+5+(q0 - (a.length+5)) by lia,rD] at hq ⊢;exact hq
   refine Ax (vs:=[nv m,nv tk,nv rt,.int (-1),nv hf,nv ky]) (ZM ∅ hh hl) hq' rfl (bs (oM ac (oE 19 oD ∅ rfl) (dk sd)) (Ky ∅ ∅ ?_));refine bs (v:=nv (qW m)) (bi (lz rfl) (uV)) (bs (v:=nv (qG m)) (bi (lz rfl) (vm)) (bs (v:=nv (u0 m)) (bi (lz rfl) (sC)) ?_));have hd:unP X.G P hs m tk rt hf ky={Dz (FY X.G (qS X.G (DV P hs) (P.board.getD (qG m) 0) (u0 m) ((1 - P.au)*8+1) (qG m) (qW m)) tk (qG m)) (1 - P.au) with az:=rt,aA:=hf,key:=ky}:=rfl;rw[hd] at q;clear hd;have fu:(FY X.G (qS X.G (DV P hs) (P.board.getD (qG m) 0) (u0 m) ((1 - P.au)*8+1) (qG m) (qW m)) tk (qG m)).av=P.av:=by
    unfold FY qS;split<;>split<;>rfl
   have L1:pL X.G (DV P hs):=M.len.same rfl rfl rfl;have L2:pL X.G (qS X.G (DV P hs) (P.board.getD (qG m) 0) (u0 m) ((1 - P.au)*8+1) (qG m) (qW m)):=by
    unfold qS;split
    .exact(L1.take _ _).put _ _
    .exact L1.shift _ _ _
   refine Qp (h2:=st a X (qS X.G (DV P hs) (P.board.getD (qG m) 0) (u0 m) ((1 - P.au)*8+1) (qG m) (qW m)) c) (oQ ∅ bv) bm (λe1 R=>?_) (λe1 R=>?_) ?_
   .have e1:=cy e1;unfold qS at R;rw[cG e1] at R;exact HS (bi (lc rfl (lz rfl)) (wa (P:=DV P hs) A L1 M.pc mt)) (oO (bi (lc rfl (be (bi (lc rfl (be bv f8)) (z5 (by show 1 - P.au<1000;lia))) (lz rfl))) (uY A (L1.take _ _) (pc8 (c2 _)) mf)) (ld R))
   .have e1:=cz e1;unfold qS at R;rw[cH e1] at R;exact oO (bi (lc rfl (lc rfl (lz rfl))) (yr (P:=DV P hs) A L1 M.pc mt mf)) (ld R)
   generalize qS X.G (DV P hs) (P.board.getD (qG m) 0) (u0 m) ((1 - P.au)*8+1) (qG m) (qW m)=P2 at*;refine lv (oQ ∅ bv) bm (λe1=>cJ (cy e1) (by rcases M.sp with h | h<;>rw[h]<;>decide)) λw=>?_;refine BY (h2:=st a X (FY X.G P2 tk (qG m)) c) (tP ∅ bv) bm (λe1 R=>?_) (λe1=>?_) ?_
   .have e1:=cy e1;unfold FY at R;rw[cG e1] at R;exact oO (bi (lc rfl (lc rfl (be (bi (lc rfl (lz rfl)) (wG (by rcases M.sp with h | h<;>rw[h]<;>decide))) f8))) (uY A L2 (M.tk e1) mt)) (ld R)
   .unfold FY;rw[cH (cz e1)]
   generalize FY X.G P2 tk (qG m)=P3 at*;refine BY (h2:=st a X (Dz P3 (1 - P.au)) c) (oQ ∅ bv) bm (λe1 R=>?_) (λe1=>?_) (JB ∅ ∅ (y0 (P':={Dz P3 (1 - P.au) with az:=rt}) ∅ ∅ (sG rfl rfl) (Hv ∅ ∅ (ZF ∅ ∅ (om (u5 q))))))
   .unfold Dz at R;rw[cG (cy e1)] at R;exact NT ∅ ac (by rw[fu];exact M.fu) (ld R)
   .unfold Dz;rw[cH (cz e1)]
end
def Xr(F R:Nat)(f r:Int):Bool:=cu (0<=f)&&cu (f<F)&&(cu (0<=r)&&cu (r<R))
def U3(F R:Nat)(o u:Int):Nat->Int->Int->List Nat
 | 0,_,_=>[]
 | n+1,f,r=>if Xr F R f r=b9 then(r.toNat*F+f.toNat)::U3 F R o u n (f+o) (r+u) else[]
def adq(F R:Nat)(o u:Int):Nat->Int->Int->Bool
 | 0,f,r=> !Xr F R f r
 | n+1,f,r=> !Xr F R f r||adq F R o u n (f+o) (r+u)
def wN(F R s:Nat)(w:Int × Int):List Nat:=U3 F R w.1 w.2 8 ((s%F:Nat)+w.1) ((s/F:Nat)+w.2)
def pB(p:Nat->Bool):List Nat->List Nat
 | []=>[]
 | s::l=>s::if p s=b9 then[] else pB p l
def oy:List (Int × Int):=[(0,1),(1,0),(0,-1),(-1,0),(1,1),(1,-1),(-1,-1),(-1,1)]
def t6:List (Int × Int):=[(1,2),(2,1),(2,-1),(1,-2),(-1,-2),(-2,-1),(-2,1),(-1,2)]
def rO(sd:Nat):List (Int × Int):=[(1,1 - ((sd*2:Nat):Int)),(-1,1 - ((sd*2:Nat):Int))]
def pJ(k sd:Nat):List (Int × Int):=if k=1 then rO sd else if k=2 then t6 else if k=3 then oy.drop 4 else if k=4 then oy.take 4 else oy
def ze(k:Nat):Bool:=cu (k=1)||(cu (k=2)||decide (k=6))
def wW(aS:List Nat)(k:Nat)(s:Nat):Bool:=cu (aS.getD s 0≠0)||ze k
def yg(F R:Nat)(aS:List Nat)(k sd s:Nat):List Nat:=(pJ k sd).flatMap λw=>pB (wW aS k) (wN F R s w)
def ro(F R:Nat)(aS:List Nat)(s:Nat):List Nat:=yg F R aS (aS.getD s 0%8) (aS.getD s 0/8) s
def Tv:List (List (Int × Int)):=[rO 0,rO 1,t6,oy.drop 4,oy.take 4,oy]
theorem JH(h:sd<2):pJ k sd∈Tv:=by
 unfold pJ;rcases (u2 (by assumption:sd<2)) with h | h<;>subst h<;>(repeat' split)<;>simp [Tv]
structure Bd (F R:Nat):Prop where
 f:3<=F/\F<=7
 r:3<=R/\R<=4
 sz:F*R<=21
 adq:(cn (F*R)).all (λs=>Tv.all λws=>ws.all λw=>adq F R w.1 w.2 8 ((s%F:Nat)+w.1) ((s/F:Nat)+w.2))=b9
 len:(cn (F*R)).all (λs=>Tv.all λws=>cu ((ws.map λw=>(wN F R s w).length).sum<=24))=b9
theorem Zs:Bd 3 4:=⟨by decide,by decide,by decide,by decide +kernel,by decide +kernel⟩
theorem YG:Bd 7 3:=⟨by decide,by decide,by decide,by decide +kernel,by decide +kernel⟩
theorem Bd.adq_(b:Bd F R)(hs:s<F*R)(h:sd<2)(hw:w∈pJ k sd):Mine.Lake.adq F R w.1 w.2 8 ((s%F:Nat)+w.1) ((s/F:Nat)+w.2)=b9:=
 cN.mp (cN.mp (cN.mp b.adq s (cO.mpr hs)) _ (JH h)) _ hw
theorem IK(p:Nat->Bool):∀l:List Nat,(pB p l).length<=l.length
 | []=>da _
 | s::l=>by
  have:=IK p l;unfold pB;split
  .exact jQ (dH _)
  .exact jQ this
theorem Bd.hits_len{s k sd:Nat}(b:Bd F R)(hs:s<F*R)(h:sd<2)(aS:List Nat):(yg F R aS k sd s).length<=24:=by
 revert aS;ext s k sd;have z:=cy (cN.mp (cN.mp b.len s (cO.mpr hs)) _ (JH (k:=k) h));refine cS ?_ z;unfold yg
 induction pJ k sd with
 | nil=>exact da _
 | cons w l ih=>
  rw[iL,a6,dA,fM];have:=IK (wW aS k) (wN F R s w);lia
section
variable{K:pN}{e:nw}{h h1 h2 h3 t:H}{a b c:E}{i j n m p:Nat}{v x y z:V}{Q:QS}{r:Ss}{sa sb:Ss}{xs:List V}{G:V->H->Prop}{o:O}{o1 o2:Kp}{b1 b2:Bool}
theorem G3(g:tS K h v=J o):tS K (h++t) v=J o:=by
 cases v with
 | ref a=>exact(ae (f0 g)).trans g
 | con a=>exact g
 | _=>exact g
theorem Pb(A:db K a e h v (h3++t))(hv:v= .ref (h3.length+i))(hk:t[i]? =J o)(ho:Zp h3.length o)(hc:o6 h3.length h3)(q:G (.ref h3.length) (h3++[o]))(aj:∀e h,qP h3.length G (.ret v) e h->Q (.ret v) e h):oI K (.cons (.ret a) r) e h Q:=
 ⟨A.go _ (aj _ _ (.inr (.inr ⟨h3,t,i,o,rfl,hv,hk,ho,da _,hc,q⟩)))⟩
theorem As{l:List Nat}:Zp n (.list (l.map nv)):=λx hx=>by
 obtain⟨y,_,rfl⟩:=ef.mp hx;trivial
theorem Hn{t:af}(M:K.aV)(A:db K it e h v h1)(g:tS K h1 v=J (.list xs))(I:Nat->nw->H->Prop)(z:I 0 e h1)(keep:∀j e h,I j e h->tS K h v=J (.list xs))(tk:IU t .list=b9)(step:∀j v,xs[j]? =J v->∀e h,I j e h->tM K t v e h λe h=>uO K sa e h (o8 (I (j+1)) (sw K r Q)))(done:∀e h,I xs.length e h->oI K r e h Q):oI K (.cons (.each t it sa) r) e h Q:=
 E2 (k:=.list) M A (by simp [Fm,g]) tk xs.length I z
  (λj hj e h z=>⟨xs[j],by simp [oG,keep j e h z,hj],step j _ (a7 hj) e h z⟩)
  λe h z=>⟨by simp [oG,keep _ e h z],done e h z⟩
theorem Ma(A:db K a e h x h)(B:db K b e h y h)(C:db K c e h z h)(l:th K o1 x y h=J b1)(l2:th K o2 y z h=J b2):db K (.bU a o1 b o2 c) e h (.bool (b1&&b2)) h:=⟨λQ q=>A.go _ (B.go _ (by
 rw[l];show wT _ _ _;refine⟨λe1=>C.go _ (by rw[l2];rw[e1,eU] at q;exact q),λe1=>by rw[e1] at q;exact q⟩))⟩
theorem vW(A:db K a e h x h)(B:db K b e h y h)(C:db K c e h z h)(l:xT K x y z h=J (v,h2)):db K (.slice a b c) e h v h2:=⟨λQ q=>A.go _ (B.go _ (C.go _ (by rw[l];exact q)))⟩
theorem uu:∀{l:List Nat},Aa h (nv g) (l.map nv)=J (cu (g∈l))
 | []=>rfl
 | y::l=>by
  rw[dA,Aa,uu (l:=l)];have:vf 4 h (nv y) (nv g)=J (cu (y=g)):=by
   show J ((y:Int) == (g:Int))=_;congr 1;rw[de];simp;lia
  rw[this];show J _=J _;congr 1;rw[de];simp [eq_comm (a:=y)]
theorem SX(R:oI K r2 e h Q):oI K (.cons .brk r) e h (sw K r1 (o8 I (sw K r2 Q))):=⟨R.go⟩
end
theorem SW{K:pN}(B:db K a e (A++(.list (l.map nv)::t)) (.ref A.length) (A++(.list (l.map nv)::t)))(C:db K b e (A++(.list (l.map nv)::t)) (nv m) (A++(.list (l.map nv)::t)))(hl:l.length<1000):
  db K (.append a b) e (A++(.list (l.map nv)::t)) .none (A++(.list ((l++[m]).map nv)::t)):=by
 have g:(A++(O.list (l.map nv)::t))[A.length]? =J (.list (l.map nv)):=by simp
 have z:=vp B g C g (by rw[bj];exact hl);have e1:(A++(O.list (l.map nv)::t)).set A.length (.list (l.map nv++[nv m]))=A++(.list ((l++[m]).map nv)::t):=by
  rw[eA _ _ (da _),eE,iA,dR];rfl
 rw[e1] at z;exact z
theorem O0{K:pN}(g:tS K h v=J (.tup vs))(l:vs.length=is.length)(q:Q (AG is vs e) h):tM K (.tup is) v e h Q:=by
 unfold tM;dsimp only;rw[g];exact⟨l,q⟩
def Ll(K:pN)(h:H)(v:V)(ws:List (Int × Int)):Prop:=∃xs,tS K h v=J (.list xs)/\xs.length=ws.length/\∀(i:Nat) (x:V),xs[i]? =J x->∃w,ws[i]? =J w/\tS K h x=J (.tup [.int w.1,.int w.2])
def YQ:Ss:=match EE.body with
 | .cons _ (.cons _ (.cons _ r))=>r
 | _=>.nil
theorem EN{f:α->List Nat}{l:List α}{j:Nat}(hj:j<l.length):(l.take (j+1)).flatMap f=(l.take j).flatMap f++f l[j]:=by
 rw[dN hj,ij];simp
theorem Hb{f:α->List Nat}{l:List α}{j:Nat}:((l.take j).flatMap f).length<=(l.flatMap f).length:=by
 have e:l.flatMap f=(l.take j).flatMap f++(l.drop j).flatMap f:=by rw[<- ij,gV]
 rw[e,a6];exact di _ _
section
variable{d:Nat}{Q:V->H->Prop}{T wh:H}{s k cp:Nat}{aS:List Nat}
theorem Os(bd:Bd F R)(hs:s<F*R)(aX:sd<2)(L:T[cp]? =J (.list (aS.map nv)))(hl:aS.length=F*R)(W:Ll (K0 d) (T++wh) wv (pJ k sd))(hc:o6 T.length T)(q:Q (.ref T.length) (T++[.list ((yg F R aS k sd s).map nv)])):oI (K0 d) YQ [J (nv F),J (nv R),J (.ref cp),J (nv s),J (nv k),J wv,x6,U,U,U,U,U,U,U] (T++wh) (qP T.length Q):=by
 ext d Q T wh s k cp aS sd wv x6;have hF:=bd.f;have hR:=bd.r;have hsz:=bd.sz;have hcp:=f0 L;refine bc λkk=>?_;obtain⟨xs,w1,w2,w3⟩:=W;refine kk ?_;clear kk;have hb:=bd.hits_len (k:=k) hs aX aS;have F0:0<F:=by lia
 refine bs (qp (xs:=[]) f8 (dH _)) (Hn (lw _) (v:=wv) ∅ (G3 w1)
  (λj e h=>∃jk,(T++wh)++(.list ((((pJ k sd).take j).flatMap λw=>pB (wW aS k) (wN F R s w)).map nv)::jk)=h/\∃x6 x8 x9 bY,e=[J (nv F),J (nv R),J (.ref cp),J (nv s),J (nv k),J wv,x6,J (.ref (T++wh).length),x8,x9,bY,U,U,U])
  ⟨[],rfl,x6,U,U,U,rfl⟩ (λj e h z=>by obtain⟨jk,rfl,_⟩:=z;exact G3 w1) rfl (λj v hv e h z=>?_) λe h z=>?_)
 .refine bc λkk=>?_;obtain⟨jk,rfl,x6,x8,x9,bY,rfl⟩:=z;obtain⟨wy,g1,g2⟩:=w3 j v hv;obtain⟨hj,rfl⟩:=gb.mp g1;have ad:=bd.adq_ hs aX (du hj);obtain⟨fd,hfd⟩:=(⟨_,rfl⟩:∃fd,fd=((pJ k sd).take j).flatMap λw=>pB (wW aS k) (wN F R s w))
  refine kk ?_;clear kk;have hb2:(fd++pB (wW aS k) (wN F R s (pJ k sd)[j])).length<=24:=by
   rw[hfd,<-EN (f:=λw=>pB (wW aS k) (wN F R s w)) hj];exact cS Hb hb
  rw[EN hj,<-hfd];have L':∀{l:H},((T++wh)++l)[cp]? =J (.list (aS.map nv)):=λ{l}=>by rw[aa,ae hcp];exact L
  refine O0 (G3 g2) rfl ?_;refine(bs (v:=.int ((s%F:Nat)+(pJ k sd)[j].1)) (uF (wF ∅ ∅ F0) ∅ rfl) (bs (v:=.int ((s/F:Nat)+(pJ k sd)[j].2)) (uF (sX ∅ ∅ F0 (by lia)) ∅ rfl) ?_)).go;generalize hwj:(pJ k sd)[j]=wj at*;refine Er (lw _) 8 (λm e h=>∃f r g jk,adq F R wj.1 wj.2 m f r=b9/\g++pB (wW aS k) (U3 F R wj.1 wj.2 m f r)=fd++pB (wW aS k) (wN F R s wj)/\
   (T++wh)++(.list (g.map nv)::jk)=h/\e=[J (nv F),J (nv R),J (.ref cp),J (nv s),J (nv k),J wv,J (.int wj.2),J (.ref (T++wh).length),J (.int wj.1),J (.int f),J (.int r),U,U,U])
   ⟨_,_,fd,jk,ad,rfl,rfl,rfl⟩ λm e h z=>?_
  refine bc λkk=>?_;obtain⟨f,r,g,jk,ha,hg,rfl,rfl⟩:=z;refine kk ?_;clear kk;refine⟨_,_,Xr F R f r,sP (s:=cu (0<=f)&&cu (f<F)) (t:=cu (0<=r)&&cu (r<R)) (Ma qI ∅ ∅ rfl rfl) (Ma qI ∅ ∅ rfl rfl),rfl,λe1=>?_,λe1=>?_⟩
  .cases m with
   | zero=>unfold adq at ha;rw[e1] at ha;cases ha
   | succ m=>
    unfold adq at ha;unfold U3 at hg;rw[e1,jG,fy] at ha;rw[cG e1] at hg;have e2:=e1;unfold Xr at e2;simp only[ax,cA] at e2;refine bc λkk=>?_;obtain⟨⟨i1,i2⟩,i3,i4⟩:=e2;obtain⟨fn,rfl⟩:=iD i1;obtain⟨rn,rfl⟩:=iD i3;refine kk ?_;clear kk;have hf2:fn<F:=by lia
    have hr2:rn<R:=by lia
    have hq:rn*F+fn<F*R:=by
     have:rn*F+F<=R*F:=by rw[<- jh];exact dQ _ hr2
     rw[fT F R];lia
    rw[fe,fe] at hg;have gl:g.length<1000:=by
     have:=cI List.length hg;rw[a6] at this;lia
    have sqE:∀{e:nw} {h:H},e[10]? =J (J (.int (rn:Int)))->e[0]? =J (J (nv F))->e[9]? =J (J (.int (fn:Int)))->db (K0 d) (.bin .add (.bin .mul (.loc 10) (.loc 0)) (.loc 9)) e h (nv (rn*F+fn)) h:=
     λl1 l2 l3=>qK (sr (n:=rn) (r_loc l1) (r_loc l2) (by lia) (by lia)) (r_loc l3)
    refine⟨m,dO _,oO (SW ∅ (sqE rfl rfl rfl) gl) ?_⟩;have sk:cu (k∈[1,2,6])=ze k:=by
     unfold ze;rw[de];simp
    have rit:=λ{e:nw} {h:H} (lL:h[cp]? =J (.list (aS.map nv))) (l0:e[2]? =J (J (.ref cp))) (l1:e[10]? =J (J (.int (rn:Int)))) (l2:e[0]? =J (J (nv F))) (l3:e[9]? =J (J (.int (fn:Int))))=>tT (K:=K0 d) lL (r_loc (i:=2) l0) (sqE l1 l2 l3) (by rw[hl];exact hq) (by rw[hl];lia);rw[pB,List.append_cons] at hg;obtain⟨y,hy⟩:=(⟨_,rfl⟩:∃y,y=aS.getD (rn*F+fn) 0)
    have pe:wW aS k (rn*F+fn)=(cu (y≠0)||ze k):=by unfold wW;rw[hy]
    rw[pe] at hg;rw[<- hy] at rit;by_cases hz:y=0
    .subst hz;have hg:(g++[rn*F+fn])++(if ze k=b9 then[] else pB (wW aS k) (U3 F R wj.1 wj.2 m (↑fn+wj.1) (↑rn+wj.2)))=fd++pB (wW aS k) (wN F R s wj):=hg;refine lv (x:=.bool (ze k)) (t:=ze k) (EG (x:=nv 0) (t:=cj) (rit L' rfl rfl rfl rfl) rfl (λu=>pF ∅ (sZ (be ac (be ac (be ac f8))) (by show(3:Nat)<=1000;decide)) ?_) λe=>by cases e) bm (λe3=>?_) λe3=>?_
     .show(pQ _ _ _).bind _=_;rw[ud bn,eT];exact(uu (l:=[1,2,6])).trans (cI J sk)
     .rw[cG e3,cP] at hg;rw[<- hg,aa (T++wh)];exact SX (om ⟨_,rfl,_,_,_,_,rfl⟩)
     .rw[cH (by rw[e3];decide)] at hg;rw[aa (T++wh)];exact oN rfl ∅ (by rfl) (oN rfl ∅ (by rfl) (om ⟨_,_,_,_,ha,hg,rfl,rfl⟩))
    .rw[cC (p:=y≠0) hz,lZ,cG rfl,cP] at hg;refine lv (x:=nv y) (t:=b9) (EG (x:=nv y) (t:=b9) (rit L' rfl rfl rfl rfl) (by rw[oH];exact cI J (cC hz)) (λe=>by cases e) λu=>⟨rfl,rfl⟩) (by rw[oH];exact cI J (cC hz)) (λu=>?_) λe=>by cases e
     rw[<- hg];exact SX (om ⟨_,rfl,_,_,_,_,rfl⟩)
  .have:U3 F R wj.1 wj.2 m f r=[]:=by
    cases m with
    | zero=>rfl
    | succ m=>unfold U3;rw[cH (by rw[e1];decide)]
   rw[this,pB,cP] at hg;rw[hg];exact om ⟨jk,rfl,_,_,_,_,rfl⟩
 .refine bc λkk=>?_;obtain⟨jk,rfl,x6,x8,x9,bY,rfl⟩:=z;refine kk ?_;clear kk;rw[w2,dW];have e1:(T++wh)++(O.list (((pJ k sd).flatMap λw=>pB (wW aS k) (wN F R s w)).map nv)::jk)=T++(wh++(O.list ((yg F R aS k sd s).map nv)::jk)):=by rw[aa];rfl
  rw[e1];exact Pb ∅ (i:=wh.length) (o:=.list ((yg F R aS k sd s).map nv)) (by rw[a6]) (by simp) As hc q λu u z=>z
end
def WL(K:pN)(h:H):List V->List (Int × Int)->Prop
 | [],[]=>True
 | x::xs,w::ws=>tS K h x=J (.tup [.int w.1,.int w.2])/\WL K h xs ws
 | _,_=>False
theorem WL.ways{K:pN}:∀{xs:List V} {ws:List (Int × Int)},WL K h xs ws->xs.length=ws.length/\∀(i:Nat) (x:V),xs[i]? =J x->∃w,ws[i]? =J w/\tS K h x=J (.tup [.int w.1,.int w.2])
 | [],[],_=>⟨rfl,λi x e=>by cases e⟩
 | x::xs,[],q=>q.elim
 | [],w::ws,q=>q.elim
 | x::xs,w::ws,q=>by
  obtain⟨h1,h2⟩:=q.2.ways;refine⟨cI lU h1,λi y e=>?_⟩;cases i with
  | zero=>cases e;exact⟨w,rfl,q.1⟩
  | succ i=>exact h2 i y e
theorem WL.at{K:pN}(g:tS K h v=J (.list xs))(q:WL K h xs ws):Ll K h v ws:=⟨xs,g,q.ways⟩
def Et(F R:Nat)(aS:List Nat)(goal au s:Nat):Bool:= !(cu (aS.getD s 0≠0)&&(cu (aS.getD s 0/8≠au)&&cu (goal∈ro F R aS s)))
def tL(F R:Nat)(aS:List Nat)(goal au:Nat):Bool:=(cn aS.length).all (Et F R aS goal au)
theorem Pv:(cn (n+1)).all f=((cn n).all f&&f n):=by
 rw[gk,List.all_append,List.all_cons,List.all_nil,jH]
theorem Qm{n j:Nat}(l:j<n)(h:f j=cj):(cn n).all f=cj:=by
 ext f n j;cases q:(cn n).all f with
 | false=>rfl
 | true=>rw[cN.mp q j (cO.mpr l)] at h;cases h
structure CL (F R:Nat) (aS:List Nat):Prop where
 bd:Bd F R
 l:aS.length=F*R
 v:∀i,aS.getD i 0<16
section
variable{d:Nat}{Q:V->H->Prop}{T:H}{s cp goal au:Nat}{aS:List Nat}
theorem sB{K:pN}(L:h[cp]? =J (.list (aS.map nv)))(hL:CL F R aS)(hs:s<F*R)(A:db K a e h (.ref cp) h)(B:db K b e h (nv s) h):db K (.sub a b) e h (nv (aS.getD s 0)) h:=
 tT L A B (by rw[hL.l];exact hs) (by rw[hL.l];exact ar hL.bd.sz ⋯)
theorem CL.sd(h:CL F R aS)(s:Nat):aS.getD s 0/8<2:=by
 have:=h.v s;lia
theorem Fj(hL:CL F R aS)(hs:s<F*R)(L:T[cp]? =J (.list (aS.map nv))):ii (K0 (d+1)) 857 [nv F,nv R,.ref cp,nv s] T (.ref T.length) (T++[.list ((ro F R aS s).map nv)]):=by
 ext d T s cp aS;exact mk (λQ=>Me rfl) λQ q hc=>by
   have aX:=hL.sd s;unfold ro at q;obtain⟨k,hk⟩:=(⟨_,rfl⟩:∃k,k=aS.getD s 0%8)
   obtain⟨sd,hd⟩:=(⟨_,rfl⟩:∃sd,sd=aS.getD s 0/8)
   rw[<- hk,<-hd] at q;rw[<- hd] at aX;have go:=λ(wh:H) (wv:V) (x6:Option V) (W:Ll (K0 d) (T++wh) wv (pJ k sd))=>Os (d:=d) (wh:=wh) (x6:=x6) hL.bd hs aX L hL.l W hc q;have kk:∀(K:pN) (h:H) (i:Nat),K.con=(K0 d).con->WL K h [.con 833,.con 834,.con 835,.con 836,.con 837,.con 838,.con 839,.con 840] oy:=λK h i hK=>by
    have k:∀a o,(K0 d).con a=J o->tS K h (.con a)=J o:=λa o e=>by show K.con a=_;rw[hK];exact e
    exact⟨k _ _ (C0 833 _ rfl),k _ _ (C0 834 _ rfl),k _ _ (C0 835 _ rfl),k _ _ (C0 836 _ rfl),k _ _ (C0 837 _ rfl),k _ _ (C0 838 _ rfl),k _ _ (C0 839 _ rfl),k _ _ (C0 840 _ rfl),trivial⟩
   have jj:∀(K:pN) (h:H),K.con=(K0 d).con->WL K h [.con 842,.con 843,.con 844,.con 845,.con 846,.con 847,.con 848,.con 849] t6:=λK h hK=>by
    have k:∀a o,(K0 d).con a=J o->tS K h (.con a)=J o:=λa o e=>by show K.con a=_;rw[hK];exact e
    exact⟨k _ _ (C0 842 _ rfl),k _ _ (C0 843 _ rfl),k _ _ (C0 844 _ rfl),k _ _ (C0 845 _ rfl),k _ _ (C0 846 _ rfl),k _ _ (C0 847 _ rfl),k _ _ (C0 848 _ rfl),k _ _ (C0 849 _ rfl),trivial⟩
   have c841:(K0 d).con 841=J (.list [.con 833,.con 834,.con 835,.con 836,.con 837,.con 838,.con 839,.con 840]):=C0 841 _ rfl;have c850:(K0 d).con 850=J (.list [.con 842,.con 843,.con 844,.con 845,.con 846,.con 847,.con 848,.con 849]):=C0 850 _ rfl;have hK:(K0 d).con=(K0 d).con:=rfl;have cell:∀{h:H} {e:nw},h[cp]? =J (.list (aS.map nv))->e[2]? =J (J (.ref cp))->e[3]? =J (J (nv s))->db (K0 d) (.sub (.loc 2) (.loc 3)) e h (nv (aS.getD s 0)) h:=λL l2 l3=>sB L hL hs (r_loc l2) (r_loc l3);refine bs (v:=nv k) (by rw[hk];exact wF (cell L rfl rfl) ac ⋯) (bs GI ?_);refine uJ (oQ ∅ ac) bm (λe1=>?_) λe1=>?_
   .have e1:=cy e1;refine bs (v:=.int (1 - ((sd*2:Nat):Int))) (by
     have z:=sr (sX (cell (h:=T) (e:=((oU 13 [nv F,nv R,.ref cp,nv s]).set 4 (J (nv k))).set 5 (J (.con 841))) L rfl rfl) (ac (n:=8)) ⋯ ⋯) (ac (n:=2)) (by rw[<- hd];exact cX aX ⋯) ⋯;rw[<- hd] at z;exact uF qI z rfl) (bs (qp (be (sZ (be qI (lz rfl)) (by show(2:Nat)<=1000;decide)) (be (sZ (be (zl (k:=1) qI) (lz rfl)) (by show(2:Nat)<=1000;decide)) f8)) (by show(2:Nat)<=1000;decide)) (ld ?_))
    have z:=go [.tup [.int 1,.int (1 - ((sd*2:Nat):Int))],.tup [.int (-1),.int (1 - ((sd*2:Nat):Int))],.list [.ref T.length,.ref (T.length+1)]] (.ref (T.length+2)) (J (.int (1 - ((sd*2:Nat):Int)))) (WL.at (xs:=[.ref T.length,.ref (T.length+1)]) (by show(T++_)[T.length+2]? =_;rw[cT (by lia)];simp) (by
     unfold pJ;rw[cG e1];exact⟨by show(T++_)[T.length]? =_;rw[cT (by lia)];simp,by show(T++_)[T.length+1]? =_;rw[cT (by lia)];simp,trivial⟩))
    have ea:T++[O.tup [.int 1,.int (1 - ((sd*2:Nat):Int))]]++[O.tup [.int (-1),.int (1 - ((sd*2:Nat):Int))]]++[O.list [.ref T.length,.ref (T++[O.tup [V.int 1,.int (1 - ((sd*2:Nat):Int))]]).length]]=T++[.tup [.int 1,.int (1 - ((sd*2:Nat):Int))],.tup [.int (-1),.int (1 - ((sd*2:Nat):Int))],.list [.ref T.length,.ref (T.length+1)]]:=by simp
    have eb:(T++[O.tup [.int 1,.int (1 - ((sd*2:Nat):Int))]]++[O.tup [.int (-1),.int (1 - ((sd*2:Nat):Int))]]).length=T.length+2:=by simp
    show oI _ _ ((((oU 13 [nv F,nv R,.ref cp,nv s]).set 4 (J (nv k))).set 5 (J (.con 841))).set 6 _ |>.set 5 (J (.ref (T++[O.tup [.int 1,.int (1 - ((sd*2:Nat):Int))]]++[O.tup [.int (-1),.int (1 - ((sd*2:Nat):Int))]]).length))) _ _;rw[eb];refine Eq.mp ?_ z;rw[<- ea];rfl
   have e1:=cz e1;refine uJ (oQ ∅ ac) bm (λe2=>?_) λe2=>?_
   .have e2:=cy e2;have z:=go [] (.con 850) U (WL.at (xs:=[.con 842,.con 843,.con 844,.con 845,.con 846,.con 847,.con 848,.con 849]) (by show(K0 d).con 850=_;rw[hK];exact c850) (by
     unfold pJ;rw[cH e1,cG e2];exact jj _ _ hK))
    rw[cP] at z;exact bs GI (ld (ld z))
   have e2:=cz e2;have sl:∀lo hi:V,∀a b:Nat,wY lo 0=J a->wY hi 8=J b->xT (K0 d) (.con 841) lo hi T=J (.ref T.length,T++[.list (([.con 833,.con 834,.con 835,.con 836,.con 837,.con 838,.con 839,.con 840].take b).drop a)]):=λlo hi a b h1 h2=>by
    exact tC (x:=.con 841) (by show(K0 d).con 841=_;rw[hK];exact c841) h1 h2 ⋯
   refine uJ (oQ ∅ ac) bm (λe3=>?_) λe3=>?_
   .have e3:=cy e3;have z:=go [.list [.con 837,.con 838,.con 839,.con 840]] (.ref T.length) U (WL.at (xs:=[.con 837,.con 838,.con 839,.con 840]) bn (by
     unfold pJ;rw[cH e1,cH e2,cG e3];exact(kk _ _ 0 hK).2.2.2.2))
    exact bs (vW GI qI yk (sl _ _ 4 8 rfl rfl)) (ld (ld (ld z)))
   have e3:=cz e3;refine lv (oQ ∅ ac) bm (λe4=>?_) λe4=>?_
   .have e4:=cy e4;have kw:=kk (K0 d) (T++[.list [.con 833,.con 834,.con 835,.con 836]]) 0 hK;have z:=go [.list [.con 833,.con 834,.con 835,.con 836]] (.ref T.length) U (WL.at (xs:=[.con 833,.con 834,.con 835,.con 836]) bn (by
     unfold pJ;rw[cH e1,cH e2,cH e3,cG e4];exact⟨kw.1,kw.2.1,kw.2.2.1,kw.2.2.2.1,trivial⟩))
    exact bs (vW GI yk qI (sl _ _ 0 4 rfl rfl)) (ld (ld (ld (ld z))))
   .have e4:=cz e4;have z:=go [] (.con 841) U (WL.at (xs:=[.con 833,.con 834,.con 835,.con 836,.con 837,.con 838,.con 839,.con 840]) (by show(K0 d).con 841=_;rw[hK];exact c841) (by
     unfold pJ;rw[cH e1,cH e2,cH e3,cH e4];exact kk _ _ 0 hK))
    rw[cP] at z;exact ld (ld (ld z))
theorem yM(hL:CL F R aS)(L:T[cp]? =J (.list (aS.map nv))):ii (K0 (d+2)) 864 [nv F,nv R,.ref cp,nv goal,nv au] T (.bool (tL F R aS goal au)) T:=by
 ext d T cp goal au aS;exact have hcp:=f0 L
  have hsz:=hL.bd.sz
  have hl:=hL.l
  mk (λQ=>KN rfl) λQ q hc=>rV (n:=0) (m:=aS.length) (lw _) (qd (be (by have z:=t5 (K:=K0 (d+1)) (i:=7) (a:=.loc 2) (e:=oU 9 [nv F,nv R,.ref cp,nv goal,nv au]) ∅ (io L) (by rw[bj];lia);rw[bj] at z;exact z) f8) (by lia)) bn (by lia) (by lia)
   (λj e h=>∃jk,T++(.aT (0:Nat) aS.length 1::jk)=h/\(cn j).all (Et F R aS goal au)=b9/\∃x,e=[J (nv F),J (nv R),J (.ref cp),J (nv goal),J (nv au),x,U,U,U,U]) ⟨[],rfl,rfl,U,rfl⟩
   (λs w hs e h z=>by
    obtain⟨jk,rfl,ha,x,rfl⟩:=z;have L':∀{l:H},(T++l)[cp]? =J (.list (aS.map nv)):=λ{l}=>by rw[ae hcp];exact L
    have hs2:s<F*R:=by rw[<- hl];exact hs
    have cell:∀{h:H} {e:nw},h[cp]? =J (.list (aS.map nv))->e[2]? =J (J (.ref cp))->e[5]? =J (J (nv s))->db (K0 (d+1)) (.sub (.loc 2) (.loc 5)) e h (nv (aS.getD s 0)) h:=λL l2 l3=>sB L hL hs2 (r_loc l2) (r_loc l3);have kh:=λ(h:H) (L:h[cp]? =J (.list (aS.map nv)))=>Fj (d:=d) hL hs2 L;have f1:Et F R aS goal au s= !(cu (aS.getD s 0≠0)&&(cu (aS.getD s 0/8≠au)&&cu (goal∈ro F R aS s))):=rfl;have nx:∀jk',Et F R aS goal au s=b9->∃jk,T++(O.aT (0:Nat) aS.length 1::jk)=T++(O.aT (0:Nat) aS.length 1::jk')/\(cn (s+1)).all (Et F R aS goal au)=b9/\∃x,[J (nv F),J (nv R),J (V.ref cp),J (nv goal),J (nv au),J (nv s),U,U,U,U]=[J (nv F),J (nv R),J (.ref cp),J (nv goal),J (nv au),x,U,U,U,U]:=λjk' h=>⟨jk',rfl,by rw[Pv,ha,h];rfl,_,rfl⟩
    by_cases h0:aS.getD s 0=0
    .refine lv (x:=nv 0) (t:=cj) (ru (t:=cj) (cell L' rfl rfl) (by rw[oH,h0];rfl) (λe=>by cases e) λw=>⟨by rw[h0],rfl⟩) rfl (λe=>by cases e) λw=>om (nx _ ?_);rw[f1,h0];rfl
    have c0:tr (nv (aS.getD s 0))=J b9:=by rw[oH];exact cI J (cC h0)
    by_cases h1:aS.getD s 0/8=au
    .refine lv (x:=.bool cj) (t:=cj) (ru (cell L' rfl rfl) c0 (λw=>ru (x:=.bool cj) (t:=cj) (by have z:=tP (K:=K0 (d+1)) (sX (cell (h:=T++(.aT (0:Nat) aS.length 1::jk)) (e:=[J (nv F),J (nv R),J (.ref cp),J (nv goal),J (nv au),J (nv s),U,U,U,U]) L' rfl rfl) (ac (n:=8)) ⋯ ⋯) (b:=.loc 4) (m:=au) ∅;rw[h1] at z;simpa using z) rfl (λe=>by cases e) λw=>⟨rfl,rfl⟩) λe=>by cases e) rfl (λe=>by cases e) λw=>om (nx _ ?_);rw[f1,h1];simp
    refine lv (ru (cell L' rfl rfl) c0 (λw=>ru (x:=.bool b9) (t:=b9) (by have z:=tP (K:=K0 (d+1)) (sX (cell (h:=T++(.aT (0:Nat) aS.length 1::jk)) (e:=[J (nv F),J (nv R),J (.ref cp),J (nv goal),J (nv au),J (nv s),U,U,U,U]) L' rfl rfl) (ac (n:=8)) ⋯ ⋯) (b:=.loc 4) (m:=au) ∅;rw[cC (p:=aS.getD s 0/8≠au) h1] at z;exact z) rfl
     (λw=>pF (t:=cu (goal∈ro F R aS s)) ∅ (bi (lc rfl (lc rfl (lc rfl (lz rfl)))) (kh _ L')) (by show(pQ _ _ _).bind _=_;rw[io bn];exact uu)) λe=>by cases e) λe=>by cases e) bm (λe1=>?_) λe1=>?_
    .have:tL F R aS goal au=cj:=Qm hs (by rw[f1,cC h0,cC (p:=aS.getD s 0/8≠au) h1,e1];rfl);rw[this] at q;rw[aa];exact xX (v:=.bool cj) o7 hc trivial q λw w z=>z
    .rw[aa];exact om (nx _ (by rw[f1,e1,fZ,fZ];rfl)))
   λe h z=>by
    obtain⟨jk,rfl,ha,x,rfl⟩:=z;have:tL F R aS goal au=b9:=ha;rw[this] at q;exact xX (v:=.bool b9) o7 hc trivial q λw w z=>z
end
theorem Ap{c:Prop}[Decidable c]{l:List Nat}(h:t∈if c then l else[]):c/\t∈l:=by
 by_cases q:c
 .rw[cG q] at h;exact⟨q,h⟩
 .rw[cH q] at h;exact nomatch h
theorem K1{n:Nat}{f r:Int}(h:t∈U3 F R o u n f r):t<F*R:=by
 ext o u t
 induction n generalizing f r with
 | zero=>exact nomatch h
 | succ n ih=>
  have q:Xr F R f r=b9/\t∈(r.toNat*F+f.toNat)::U3 F R o u n (f+o) (r+u):=Ap h;clear h;refine(dS.mp q.2).elim (λe=>?_) ih;have q:=q.1;unfold Xr at q;simp only[ax,cA] at q;have h1:f.toNat<F:=by lia
  have h2:r.toNat<R:=by lia
  have:r.toNat*F+F<=R*F:=by rw[<- jh];exact dQ _ h2
  rw[e,fT F R];lia
theorem Sm{l:List Nat}:t∈pB p l->t∈l:=by
 induction l with
 | nil=>exact id
 | cons s l ih=>exact λh=>dS.mpr ((dS.mp h).imp_right λh=>ih (by
   cases q:p s with
   | true=>rw[q] at h;exact nomatch h
   | false=>rw[q] at h;exact h))
theorem zt(h:t∈yg F R aS k sd s):t<F*R:=by
 unfold yg at h;obtain⟨w,_,h⟩:=dP.mp h;exact K1 (Sm h)
section
variable{K:pN}{e:nw}{h h1 h2:H}{a b c it test elt:E}{i p:Nat}{v x:V}{k:It}
theorem Ff(M:K.aV)(A:db K it e h x h1)(l:Fm K h1 x=J k)(N:Nat)(I:Nat->H->Prop)(z:I 0 (h1++[.list []]))(step:∀j,j<N->∀h,I j h->∃v y b h2,oG K k h x j=J (J v)/\db K test (e.set i (J v)) h y h2/\tr y=J b/\(b=b9->∃u h3 h4,db K elt (e.set i (J v)) h2 u h3/\pu (.ref h1.length) u h3=J (.none,h4)/\I (j+1) h4)/\(b=cj->I (j+1) h2))(done:∀h,I N h->oG K k h x N=J .none/\h=h'):db K (.comp elt i it test) e h (.ref h1.length) h':=by
 revert N I;ext K e h h1 it test elt i x k h';exact⟨λQ q=>A.go _ (by
  rw[l];refine⟨N+1,Bl (f:=λv h P=>ev K test (e.set i (J v)) h λy h=>yo (tr y) λt=>wT t (ev K elt (e.set i (J v)) h λu h=>P (J u) h) (P .none h)) (λv h P P' m w=>jp M test (λy h w=>p0 (λt w=>⟨λe1=>jp M elt (λu h w=>m _ _ w) (w.1 e1),λe1=>m _ _ (w.2 e1)⟩) w) w) N I (λj hj h w=>?_) (λh w=>⟨(done h w).1,(done h w).2▸q⟩) N 0 _ (d6 N) z⟩;obtain⟨v,y,b,h2,q1,q2,q3,q4,q5⟩:=step j hj h w;refine⟨v,q1,q2.go _ ?_⟩;dsimp only;rw[q3];refine⟨λe1=>?_,λe1=>q5 e1⟩;obtain⟨u,h3,h4,r1,r2,r3⟩:=q4 e1;refine r1.go _ ?_;show tj (pu (.ref h1.length) u h3) λg h=>I (j+1) h;rw[r2];exact r3)⟩
theorem zn(hl:xs.length<1000):pu (.ref A.length) v (A++(.list xs::t))=J (.none,A++(.list (xs++[v])::t)):=by
 rw[BO (xs:=xs) (by rw[cT (da _),eE];rfl) hl,eA _ _ (da _),eE,iA]
theorem BX{l:List Nat}(hj:j<l.length):(l.take (j+1)).filter f=(l.take j).filter f++if f l[j]=b9 then[l[j]] else[]:=by
 rw[dN hj,lE];congr 1;cases q:f l[j]<;>simp [q]
theorem MT{l:List Nat}{f:Nat->Bool}(M:K.aV)(A:db K it e h (.ref p) h1)(g:h1[p]? =J (.list (l.map nv)))(hl:l.length<1000)(tst:∀s∈l,∀t,∃x,db K test (e.set i (J (nv s))) (h1++t) x (h1++t)/\tr x=J (f s))(el:∀s∈l,∀t,db K elt (e.set i (J (nv s))) (h1++t) (nv s) (h1++t)):db K (.comp elt i it test) e h (.ref h1.length) (h1++[.list ((l.filter f).map nv)]):=by
 ext K e h h1 it test elt i p l f;exact Ff (k:=.list) M A (by simp [Fm,tS,g]) l.length (λj h=>h=h1++[.list (((l.take j).filter f).map nv)]) rfl (λj hj h q=>by
   subst q;obtain⟨x,q1,q2⟩:=tst _ (du hj) [.list (((l.take j).filter f).map nv)];refine⟨nv l[j],x,f l[j],_,by simp [oG,tS,ae (f0 g),g,hj],q1,q2,λe1=>⟨_,_,_,el _ (du hj) _,zn (t:=[]) (by
    rw[bj];exact ar (cS (eV _ _) (List.length_take_le' _ _)) hl),?_⟩,λe1=>?_⟩
   .rw[BX hj,cG e1,dR];rfl
   .rw[BX hj,cH (by rw[e1];decide),cP]) λh q=>by
   subst q;exact⟨by simp [oG,tS,ae (f0 g),g],by rw[dW]⟩
theorem Jp:∀l:List Nat,uK (l.map nv)=J (l.map λn:Nat=>(n:Int))
 | []=>rfl
 | n::l=>by
  rw[dA];show(uK (l.map nv)).map ((n:Int)::·)=_;rw[Jp l];rfl
theorem Mu{k:Nat}:∀l:List Nat,(l.map λn:Nat=>(n:Int)).idxOf (k:Int)=l.idxOf k
 | []=>rfl
 | n::l=>by
  rw[dA,mU,mU,Mu l];have:((n:Int) == (k:Int))=(n == k):=by rw[de];simp;lia
  rw[this]
theorem Io{l:List Nat}{k:Nat}(A:db K a e h (.ref p) h)(g:h[p]? =J (.list (l.map nv)))(B:db K b e h (nv k) h)(m:k∈l)(hl:l.length<=1000):db K (.index a b) e h (nv (l.idxOf k)) h:=
 ⟨λQ q=>A.go _ ⟨Qg g,B.go _ (by
  show GQ (Ao (.ref p) (.int (k:Int)) h) h Q;rw[LP g (Jp l) (ef.mpr ⟨k,m,rfl⟩) (by rw[bj];exact hl),Mu];exact q)⟩⟩
theorem R0(A:db K a e h (.ref p) h)(g:h[p]? =J (.list xs))(hl:xs.length<=1000):db K (.slice a .bK .bK) e h (.ref h.length) (h++[.list xs]):=
 vW A yk yk (by
  rw[tC (x:=.ref p) g (show wY .none 0=J 0 from rfl) (show wY .none xs.length=J xs.length from rfl) hl,dW,nc])
end
def MK(aS:List Nat)(au t:Nat):Bool:=cu (aS.getD t 0=0)||decide (aS.getD t 0/8≠au)
def u9(aS:List Nat)(au t:Nat):Bool:=cu (aS.getD t 0≠0)&&cu (aS.getD t 0/8≠au)
def sD(F au s:Nat):Nat:=s+F - 2*F*au
def ou(F R:Nat)(aS:List Nat)(s:Nat):List Nat:=if aS.getD s 0%8≠1 then(ro F R aS s).filter (MK aS (aS.getD s 0/8))
 else(ro F R aS s).filter (u9 aS (aS.getD s 0/8))++if aS.getD (sD F (aS.getD s 0/8) s) 0=0 then[sD F (aS.getD s 0/8) s] else[]
def Br(F R:Nat)(aS:List Nat):Prop:=∀s,s<F*R->aS.getD s 0%8=1->F<=s/\s+F<F*R
def oz(aS:List Nat)(s t:Nat):List Nat:=(aS.set t (aS.getD s 0)).set s 0
def tf(F R:Nat)(aS:List Nat)(s t:Nat):Bool:=tL F R (oz aS s t) ((oz aS s t).idxOf (aS.getD s 0/8*8+6)) (aS.getD s 0/8)
theorem zi{l:List Nat}:(l.set i x).getD j 0=if i=j/\i<l.length then x else l.getD j 0:=by
 rw[ba,iH];by_cases h:i=j
 .subst h;by_cases h2:i<l.length
  .simp [h2]
  .simp [h2]
 .simp [h]
theorem CL.set{aS:List Nat}(h:CL F R aS)(hx:x<16):CL F R (aS.set i x):=⟨h.bd,by rw[cR];exact h.l,λj=>by
 rw[zi];split
 .exact hx
 .exact h.v j⟩
theorem CL.after(h:CL F R aS)(s t:Nat):CL F R (oz aS s t):=(h.set (h.v s)).set ⋯
section
variable{d:Nat}{Q:V->H->Prop}{T:H}{s t cp au:Nat}{aS:List Nat}
theorem J3(hL:CL F R aS)(hs:s<F*R):(ro F R aS s).length<=24:=hL.bd.hits_len hs (hL.sd s) aS
theorem JO(hL:CL F R aS)(hs:s<F*R):(ou F R aS s).length<=25:=by
 ext s aS;have:=J3 hL hs;unfold ou;split
 .exact cS (eV _ _) (by lia)
 .rw[a6];have:=eV (u9 aS (aS.getD s 0/8)) (ro F R aS s);split
  .rw[kC];lia
  .rw[fc];lia
theorem BJ(hL:CL F R aS)(hp:Br F R aS)(hs:s<F*R)(L:T[cp]? =J (.list (aS.map nv))):ii (K0 (d+2)) 869 [nv F,nv R,.ref cp,nv s] T (.ref T.length) (T++[.list ((ou F R aS s).map nv)]):=by
 ext d T s cp aS;exact mk (λQ=>Jo rfl) λQ q hc=>by
   have hcp:=f0 L;have hF:=hL.bd.f;have hsz:=hL.bd.sz;have aX:=hL.sd s;have hle:=J3 hL hs;have L':∀{l:H},(T++l)[cp]? =J (.list (aS.map nv)):=λ{l}=>by rw[ae hcp];exact L
   have cell:∀{h:H} {e:nw} {j t:Nat},h[cp]? =J (.list (aS.map nv))->e[2]? =J (J (.ref cp))->e[j]? =J (J (nv t))->t<F*R->db (K0 (d+1)) (.sub (.loc 2) (.loc j)) e h (nv (aS.getD t 0)) h:=λL l2 l3 ht=>sB L hL ht (r_loc l2) (r_loc l3);refine bs (sX (cell L rfl rfl hs) ac ⋯ ⋯) (bs (bi (lc rfl (lc rfl (lc rfl (lz rfl)))) (Fj hL hs L)) ?_);unfold ou at q;refine lv (tP (wF (cell L' rfl rfl hs) ac ⋯) ac) bm (λe1=>?_) λe1=>?_
   .rw[cG (cy e1)] at q;refine Pb (t:=[.list ((ro F R aS s).map nv)]++[.list (((ro F R aS s).filter (MK aS (aS.getD s 0/8))).map nv)]) (i:=1) (v:=.ref (T++[O.list ((ro F R aS s).map nv)]).length) ?_ (by rw[a6];rfl) rfl As hc q λw w z=>z;rw[<- aa];refine MT (lw _) ∅ bn (by lia) (λt ht l=>?_) λt ht l=>r_loc rfl;have h2:=zt ht;rw[aa];exact⟨_,sQ (oQ (cell L' rfl rfl h2) ac) (tP (sX (cell L' rfl rfl h2) ac ⋯ ⋯) ∅),rfl⟩
   .have e1:=cz e1;rw[cH e1] at q;obtain⟨p1,p2⟩:=hp s hs (cM e1);have ah:sD F (aS.getD s 0/8) s<F*R:=by
     unfold sD;rcases (by lia:aS.getD s 0/8=0\/aS.getD s 0/8=1) with h | h<;>rw[h]<;>lia
    have ah2:2*F*(aS.getD s 0/8)<=s+F:=by
     rcases (by lia:aS.getD s 0/8=0\/aS.getD s 0/8=1) with h | h<;>rw[h]<;>lia
    have fl:=eV (u9 aS (aS.getD s 0/8)) (ro F R aS s);refine bs (v:=.ref (T++[O.list ((ro F R aS s).map nv)]).length) (h1:=(T++[O.list ((ro F R aS s).map nv)])++[.list (((ro F R aS s).filter (u9 aS (aS.getD s 0/8))).map nv)]) (MT (lw _) ∅ bn (by lia) (λt ht l=>?_) λt ht l=>r_loc rfl)
     (bs (v:=nv (sD F (aS.getD s 0/8) s)) (oM (qK ∅ ∅) (sr (sr ac ∅ ⋯ (by lia)) ∅ (by show 2*F<1000000000;lia) (by lia)) ah2) ?_)
    .have h2:=zt ht;rw[aa];by_cases z:aS.getD t 0=0
     .refine⟨nv 0,ru (t:=cj) (cell L' rfl rfl h2) (by rw[oH,z];rfl) (λe=>by cases e) λw=>⟨by rw[z],rfl⟩,?_⟩;unfold u9;rw[z];rfl
     .refine⟨.bool (cu (aS.getD t 0/8≠aS.getD s 0/8)),ru (t:=b9) (cell L' rfl rfl h2) (by rw[oH];exact cI J (cC z)) (λw=>tP (sX (cell L' rfl rfl h2) ac ⋯ ⋯) ∅) (λe=>by cases e),?_⟩;unfold u9;rw[cC (p:=aS.getD t 0≠0) z,eU];rfl
    .rw[aa T];refine BY (h2:=T++([O.list ((ro F R aS s).map nv)]++[.list (((ro F R aS s).filter (u9 aS (aS.getD s 0/8))++if aS.getD (sD F (aS.getD s 0/8) s) 0=0 then[sD F (aS.getD s 0/8) s] else[]).map nv)])) (oQ (cell L' rfl rfl ah) ac) bm (λe2 R=>?_) (λe2=>?_) ?_
     .rw[cG (cy e2)] at R;rw[<- aa] at R ⊢;exact oO (SW (t:=[]) ∅ ∅ (by lia)) (ld R)
     .rw[cH (cz e2),cP]
     .exact Pb (i:=1) ∅ (by rw[a6];rfl) rfl As hc q λw w z=>z
theorem Ef(hL:CL F R aS)(hs:s<F*R)(ht:t<F*R)(hk:aS.getD s 0/8*8+6∈oz aS s t)(L:T[cp]? =J (.list (aS.map nv))):ii (K0 (d+3)) 876 [nv F,nv R,.ref cp,nv s,nv t] T (.bool (tf F R aS s t)) T:=
 mk (λQ=>LM rfl) λQ q hc=>by
  have hcp:=f0 L;have hsz:=hL.bd.sz;have hl:=hL.l;have aX:=hL.sd s;have L':∀{l:H},(T++l)[cp]? =J (.list (aS.map nv)):=λ{l}=>by rw[ae hcp];exact L
  refine bs (sX (sB L hL hs ∅ ∅) ac ⋯ ⋯) (bs (R0 ∅ L (by rw[bj];lia)) ?_);refine uB (sB bn hL hs ∅ ∅) ∅ ∅ (DX bn (by lia) (by lia)) ?_;rw[zq];refine uB ac ∅ ∅ (DX bn (by rw[cR];lia) (by rw[cR];lia)) ?_;rw[zq];have hA:=hL.after s t;have g:(T++[O.list ((oz aS s t).map nv)])[T.length]? =J (.list ((oz aS s t).map nv)):=bn;exact xX (h3:=T) (t:=[O.list ((oz aS s t).map nv)]) (bi (lc rfl (lc rfl (lc rfl (be (Io ∅ g (qK (sr ∅ ac (cX aX ⋯) ⋯) ac) hk (by rw[hA.l];lia)) (lz rfl))))) (yM hA g)) hc trivial q λw w z=>z
end
def pR(h:H)(b:Nat):List V->List (Nat × Nat)->Prop
 | [],[]=>True
 | v::vs,p::ps=>(∃q,v= .ref q/\b<q/\h[q]? =J (.tup [nv p.1,nv p.2]))/\pR h b vs ps
 | _,_=>False
theorem pR.len:∀{vs:List V} {ps:List (Nat × Nat)},pR h b vs ps->vs.length=ps.length
 | [],[],_=>rfl
 | [],_::_,q=>q.elim
 | _::_,[],q=>q.elim
 | _::_,_::_,q=>cI lU q.2.len
theorem pR.mono(hb:b'<=b)(k:∀i o,b<i->h[i]? =J o->h'[i]? =J o):∀{vs:List V} {ps:List (Nat × Nat)},pR h b vs ps->pR h' b' vs ps
 | [],[],_=>trivial
 | [],_::_,q=>q.elim
 | _::_,[],q=>q.elim
 | _::_,_::_,q=>by
  refine bc λkk=>?_;obtain⟨⟨x,h1,h2,h3⟩,q2⟩:=q;refine kk ?_;clear kk;exact⟨⟨x,h1,ar hb h2,k x _ h2 h3⟩,q2.mono hb k⟩
theorem pR.append:∀{vs us:List V} {ps rs:List (Nat × Nat)},pR h b vs ps->pR h b us rs->pR h b (vs++us) (ps++rs)
 | [],_,[],_,_,q=>q
 | [],_,_::_,_,q,_=>q.elim
 | _::_,_,[],_,q,_=>q.elim
 | _::_,_,_::_,_,q,q'=>⟨q.1,q.2.append q'⟩
theorem pR.get:∀{vs:List V} {ps:List (Nat × Nat)} {i:Nat},pR h b vs ps->i<ps.length->∃q,vs[i]? =J (.ref q)/\b<q/\h[q]? =J (.tup [nv (ps.getD i (0,0)).1,nv (ps.getD i (0,0)).2])
 | [],[],_,_,l=>cJ l (fE _)
 | [],_::_,_,q,_=>q.elim
 | _::_,[],_,q,_=>q.elim
 | v::vs,p::ps,i,q,l=>by
  cases i with
  | zero=>obtain⟨⟨x,h1,h2,h3⟩,_⟩:=q;exact⟨x,cI J h1,h2,h3⟩
  | succ i=>exact q.2.get (Nat.lt_of_succ_lt_succ l)
def ve(F R:Nat)(aS:List Nat)(au s:Nat):List (Nat × Nat):=if aS.getD s 0≠0/\aS.getD s 0/8=au then(ou F R aS s).map λt=>(s,t) else[]
def rd(F R:Nat)(aS:List Nat)(au:Nat):List (Nat × Nat):=(cn aS.length).flatMap (ve F R aS au)
def Je(o8:Int)(n k:Nat):Nat:=(fg (o8+k) n).toNat
def DA(F R:Nat)(aS:List Nat)(ms:List (Nat × Nat))(o8:Int)(k:Nat):Option (Nat × Nat):=
 if tf F R aS (ms.getD (Je o8 ms.length k) (0,0)).1 (ms.getD (Je o8 ms.length k) (0,0)).2=b9 then J (ms.getD (Je o8 ms.length k) (0,0)) else U
def w8(F R:Nat)(aS:List Nat)(au:Nat)(o8:Int):Option (Nat × Nat):=(cn (rd F R aS au).length).findSome? (DA F R aS (rd F R aS au) o8)
def AZ:Option (Nat × Nat)->O
 | none=>.tup []
 | some m=>.tup [nv m.1,nv m.2]
theorem yX:(cn (n+1)).flatMap f=(cn n).flatMap f++f n:=by
 rw[gk,ij];simp
section
variable{K:pN}{e:nw}{h h1 h2:H}{a b it:E}{i j p s n:Nat}{v x:V}{l:List Nat}
theorem UR(M:K.aV)(A:db K it e h (.ref p) h1)(g:h1[p]? =J (.list (l.map nv)))(hl:l.length<1000)(el:∀t h,db K a (e.set i (J (nv t))) h (nv s) h)(er:∀t h,db K b (e.set i (J (nv t))) h (nv t) h):
  db K (.comp (.tup (.cons a (.cons b .nil))) i it (.bool b9)) e h (.ref h1.length) (h1++(.list ((cn l.length).map λj=>.ref (h1.length+1+j))::l.map λt=>.tup [nv s,nv t])):=by
 ext K e h h1 a b it i p s l;exact Ff (k:=.list) M A (by simp [Fm,tS,g]) l.length (λj h=>h=h1++(.list ((cn j).map λj=>.ref (h1.length+1+j))::(l.take j).map λt=>.tup [nv s,nv t])) rfl (λj hj h q=>by
   subst q;refine⟨nv l[j],.bool b9,b9,_,by simp [oG,tS,ae (f0 g),g,hj],o7,rfl,λw=>⟨_,_,_,sZ (be (el _ _) (be (er _ _) f8)) (by show(2:Nat)<=1000;decide),?_,rfl⟩,λe=>by cases e⟩;rw[aa,eD,zn (by rw[bj,dv];lia)];have e1:(h1++(O.list ((cn j).map λj=>V.ref (h1.length+1+j))::(l.take j).map λt=>O.tup [nv s,nv t])).length=h1.length+1+j:=by
    rw[a6,eB,bj,dE];lia
   rw[e1,gk,dR,dN hj,dR];rfl) λh q=>by
   subst q;exact⟨by simp [oG,tS,ae (f0 g),g],by rw[dW]⟩
theorem MZ(A:H)(h0:0<A.length):∀(l:List Nat) (t:H),pR (A++((l.map λt=>.tup [nv s,nv t])++t)) (A.length - 1) ((cn l.length).map λj=>.ref (A.length+j)) (l.map λt=>(s,t))
 | [],t=>trivial
 | y::l,t=>by
  have z:=MZ (A++[.tup [nv s,nv y]]) (by rw[a6];exact fJ _) l t;rw[a6,kC,aa] at z;rw[eB,j0,dA,dA,h9];refine⟨⟨A.length,rfl,by lia,by simp⟩,?_⟩;have e1:(λj=>V.ref (A.length+j)) ∘ lU=λj=>.ref (A.length+1+j):=by
   funext j;show V.ref (A.length+(j+1))=_;congr 1;lia
  rw[e1];exact z.mono (by lia) λi o w h=>h
theorem sE(A:db K a e h (.int t) h1)(B:db K b e h1 (nv n) h2)(l:0<n):db K (.bin .mod a b) e h (nv (fg t n).toNat) h2:=by
 have l':(0:Int)<(n:Int):=by lia
 have z:=uF (o:=.mod) (z:=.int (fg t n)) A B (by
  unfold pD nv;dsimp only;rw[cG l'])
 have:0<=fg t n:=iN _ l';unfold nv at z ⊢;rw[gC this];exact z
theorem RF(hq:A.length<q)(g:(A++(.list xs::t))[q]? =J (.list ys))(hl:xs.length+ys.length<=1000):Cf .add (.ref A.length) (.ref q) (A++(.list xs::t))=J (.ref A.length,A++(.list (xs++ys)::t)):=by
 have g0:(A++(O.list xs::t))[A.length]? =J (.list xs):=by simp
 show TA .add (A++(O.list xs::t))[A.length]? (A++(O.list xs::t))[q]? _=_;rw[g0,g];refine(cG hl).trans ?_;show J (V.ref A.length,(A++O.list xs::t).set A.length (.list (xs++ys)))=_;rw[eA _ _ (da _),eE,iA]
end
theorem qL{aS:List Nat}(hL:CL F R aS)(hp:Br F R aS)(hs:s<F*R)(h:t∈ou F R aS s):t<F*R:=by
 ext s t aS;have aX:=hL.sd s;unfold ou at h;split at h
 .exact zt (eo.mp h).1
 .rename_i e1;rcases cV.mp h with h | h
  .exact zt (eo.mp h).1
  .obtain⟨p1,p2⟩:=hp s hs (cM e1);split at h
   .rw[dX] at h;subst h;unfold sD;rcases (by lia:aS.getD s 0/8=0\/aS.getD s 0/8=1) with h | h<;>rw[h]<;>lia
   .cases h
theorem rE:m∈rd F R aS au↔m.1<aS.length/\aS.getD m.1 0≠0/\aS.getD m.1 0/8=au/\m.2∈ou F R aS m.1:=by
 ext au aS m;unfold rd ve;rw[dP];constructor
 .rintro⟨s,h1,h2⟩;split at h2
  .rename_i h3;obtain⟨t,h4,rfl⟩:=ef.mp h2;exact⟨cO.mp h1,h3.1,h3.2,h4⟩
  .cases h2
 .rintro⟨h1,h2,h3,h4⟩;refine⟨m.1,cO.mpr h1,?_⟩;rw[cG ⟨h2,h3⟩];exact ef.mpr ⟨m.2,h4,rfl⟩
def Do(F R:Nat)(aS:List Nat)(au:Nat):Prop:=∀m∈rd F R aS au,au*8+6∈oz aS m.1 m.2
section
variable{d:Nat}{Q:V->H->Prop}{T:H}{s t cp au:Nat}{aS:List Nat}
theorem Gg(hL:CL F R aS)(hj:j<=F*R):((cn j).flatMap (ve F R aS au)).length<=j*25:=by
 induction j with
 | zero=>exact da _
 | succ j ih=>
  have ih:=ih (Nat.le_of_succ_le hj);rw[yX,a6];have:(ve F R aS au j).length<=25:=by
   unfold ve;split
   .rw[bj];exact JO hL hj
   .exact dH _
  lia
theorem P6{o8:Int}(h:0<n):Je o8 n k<n:=by
 unfold Je;have h':(0:Int)<(n:Int):=by lia
 have:=lF (o8+k) h';have:=iN (o8+k) h';lia
theorem yw:(cn (n+1)).findSome? f=((cn n).findSome? f).or (f n):=by
 rw[gk,List.findSome?_append];simp
theorem PK(hj:j<n)(h0:(cn j).findSome? f=U)(h:f j=J x):(cn n).findSome? f=J x:=by
 obtain⟨k,rfl⟩:=iE hj
 induction k with
 | zero=>rw[jW,yw,h0,h];rfl
 | succ k ih=>rw[show j+(k+1)+1=(j+k+1)+1 by lia,yw,ih (by lia)];rfl
theorem DK{o8:Int}(hL:CL F R aS)(hp:Br F R aS)(hk:Do F R aS au)(L:T[cp]? =J (.list (aS.map nv))):
  ii (K0 (d+4)) 881 [nv F,nv R,.ref cp,nv au,.int o8] T (.ref T.length) (T++[AZ (w8 F R aS au o8)]):=by
 ext d T cp au aS o8;exact mk (λQ=>Lh rfl) λQ q hc=>by
   have hcp:=f0 L;have hsz:=hL.bd.sz;have hl:=hL.l;have L':∀{l:H},(T++l)[cp]? =J (.list (aS.map nv)):=λ{l}=>by rw[ae hcp];exact L
   refine bs (qp (xs:=[]) f8 (dH _)) (rV (n:=0) (m:=aS.length) (lw _) (qd (be (by have z:=t5 (K:=K0 (d+3)) (i:=10) (a:=.loc 2) (h:=T++[.list []]) (e:=(oU 13 [nv F,nv R,.ref cp,nv au,.int o8]).set 5 (J (.ref T.length))) ∅ (io L') (by rw[bj];lia);rw[bj] at z;exact z) f8) (by lia)) bn (by lia) (by lia)
    (λj e h=>∃vs jk,T++(.list vs::jk)=h/\pR h T.length vs ((cn j).flatMap (ve F R aS au))/\∃x,e=[J (nv F),J (nv R),J (.ref cp),J (nv au),J (.int o8),J (.ref T.length),x,U,U,U,U,U,U,U])
    ⟨[],[.aT (0:Nat) aS.length 1],by rw[aa];rfl,trivial,U,rfl⟩ (λs w hs e h z=>?_) λe h z=>?_)
   .refine bc λkk=>?_;obtain⟨vs,jk,rfl,hP,x,rfl⟩:=z;refine kk ?_;clear kk;have hs2:s<F*R:=by rw[<- hl];exact hs
    have cell:∀{h:H} {e:nw},h[cp]? =J (.list (aS.map nv))->e[2]? =J (J (.ref cp))->e[6]? =J (J (nv s))->db (K0 (d+3)) (.sub (.loc 2) (.loc 6)) e h (nv (aS.getD s 0)) h:=λL l2 l3=>sB L hL hs2 (r_loc l2) (r_loc l3);have ln:=hP.len;have ml:=Gg (au:=au) hL (j:=s) (dJ hs2);have cnd:∃x,db (K0 (d+3)) (.and (.sub (.loc 2) (.loc 6)) (.cmp (.bin .div (.sub (.loc 2) (.loc 6)) (.int 8)) .eq (.loc 3))) [J (nv F),J (nv R),J (.ref cp),J (nv au),J (.int o8),J (.ref T.length),J (nv s),U,U,U,U,U,U,U] (T++(.list vs::jk)) x (T++(.list vs::jk))/\tr x=J (cu (aS.getD s 0≠0/\aS.getD s 0/8=au)):=by
     by_cases h0:aS.getD s 0=0
     .refine⟨nv 0,ru (t:=cj) (cell L' rfl rfl) (by rw[oH,h0];rfl) (λe=>by cases e) λw=>⟨by rw[h0],rfl⟩,?_⟩;rw[h0];rfl
     .refine⟨.bool (cu (aS.getD s 0/8=au)),ru (t:=b9) (cell L' rfl rfl) (by rw[oH];exact cI J (cC h0)) (λw=>oQ (sX (cell L' rfl rfl) ac ⋯ ⋯) ∅) (λe=>by cases e),?_⟩;show J (decide _)=J _;congr 1;rw[de];simp only[cA];exact⟨λh=>⟨h0,h⟩,λh=>h.2⟩
    obtain⟨cx,c1,c2⟩:=cnd;refine lv c1 c2 (λe1=>?_) λe1=>om ⟨vs,jk,rfl,?_,_,rfl⟩
    .have e1:=cy e1;obtain⟨gl,hgl⟩:=(⟨_,rfl⟩:∃gl,gl=ou F R aS s)
     have gll:gl.length<=25:=by rw[hgl];exact JO hL hs2
     have kg:=BJ (d:=d+1) hL hp hs2 (T:=T++(.list vs::jk)) L';rw[<- hgl] at kg;obtain⟨ys,hys⟩:=(⟨_,rfl⟩:∃ys:List V,ys=(cn gl.length).map λj=>.ref ((T++(.list vs::jk)++[O.list (gl.map nv)]).length+1+j))
     have yl:ys.length=gl.length:=by rw[hys,bj,dv]
     have rc:=UR (K:=K0 (d+3)) (i:=13) (a:=.loc 6) (b:=.loc 13) (s:=s) (l:=gl) (e:=[J (nv F),J (nv R),J (.ref cp),J (nv au),J (.int o8),J (.ref T.length),J (nv s),U,U,U,U,U,U,U]) (lw _) (bi (i:=11) (be (r_loc (i:=0) rfl) (be (r_loc (i:=1) rfl) (be (r_loc (i:=2) rfl) (be (r_loc (i:=6) rfl) f8)))) kg) bn (by lia) (λt h=>r_loc rfl) λt h=>r_loc rfl;rw[<- hys] at rc;have ea:∀(v:List V),T++(O.list v::jk)++[O.list (gl.map nv)]++(O.list ys::gl.map λt=>O.tup [nv s,nv t])=T++(O.list v::(jk++[O.list (gl.map nv)]++(.list ys::gl.map λt=>.tup [nv s,nv t]))):=λv=>by simp
     have eb:∀(v:List V),T++(O.list v::(jk++[O.list (gl.map nv)]++(.list ys::gl.map λt=>.tup [nv s,nv t])))=(T++(O.list v::jk)++[O.list (gl.map nv)]++[O.list ys])++((gl.map λt=>.tup [nv s,nv t])++[]):=λv=>by simp
     refine oN rfl rc (v:=.ref T.length) (h2:=T++(O.list (vs++ys)::(jk++[O.list (gl.map nv)]++(.list ys::gl.map λt=>.tup [nv s,nv t])))) ?_ (ld (om ⟨vs++ys,_,rfl,?_,_,rfl⟩))
     .rw[ea];refine RF (by rw[a6,a6];exact Nat.lt_add_right _ (fx (fJ _))) ?_ (by lia);rw[<- ea,cT (da _),eE];rfl
     .rw[yX];have m1:ve F R aS au s=gl.map λt=>(s,t):=by unfold ve;rw[cG e1,hgl]
      rw[m1];refine pR.append (hP.mono (da _) λi o hi g=>?_) ?_
      .rw[cT (dJ hi)] at g ⊢;obtain⟨k,hk2⟩:=iE hi;rw[show i - T.length=k+1 by lia] at g ⊢;rw[jR] at g ⊢;rw[aa,ae (f0 g)];exact g
      .rw[eb];have pn:=MZ (s:=s) (T++(O.list (vs++ys)::jk)++[O.list (gl.map nv)]++[O.list ys]) (by rw[a6];exact fJ _) gl [];have el:(T++(O.list (vs++ys)::jk)++[O.list (gl.map nv)]++[O.list ys]).length=(T++(.list vs::jk)++[O.list (gl.map nv)]).length+1:=by simp only[a6,eB,fc]
       rw[el,<-hys] at pn;exact pn.mono (by simp only[a6,eB,fc];lia) λi o w h=>h
    .rw[yX];have m1:ve F R aS au s=[]:=by unfold ve;rw[cH (cz e1)]
     rw[m1,cP];exact hP
   .refine bc λkk=>?_;obtain⟨vs,jk,rfl,hP,x,rfl⟩:=z;have hP:pR (T++(.list vs::jk)) T.length vs (rd F R aS au):=hP;have ln:=hP.len;have ml:=Gg (au:=au) hL (j:=aS.length) (hU hl);have ml:(rd F R aS au).length<=aS.length*25:=ml;obtain⟨ms,hms⟩:=(⟨_,rfl⟩:∃ms,ms=rd F R aS au)
    refine kk ?_;clear kk;unfold w8 at q;rw[<- hms] at hP ln ml q;have gv:∀{t:H},(T++(.list vs::t))[T.length]? =J (.list vs):=λ{t}=>by simp
    have len:∀{e:nw} {t:H},e[5]? =J (J (.ref T.length))->db (K0 (d+3)) (.len 10 (.loc 5)) e (T++(.list vs::t)) (nv ms.length) (T++(.list vs::t)):=λ{e t} l=>by
     have z:=t5 (K:=K0 (d+3)) (i:=10) (a:=.loc 5) (e:=e) (r_loc l) (io (gv (t:=t))) (by lia);rw[ln] at z;exact z
    refine rV (n:=0) (m:=ms.length) (lw _) (qd (be (len rfl) f8) (by lia)) bn (by lia) (by lia)
     (λj e h=>T++(.list vs::(jk++[.aT (0:Nat) ms.length 1]))=h/\(cn j).findSome? (DA F R aS ms o8)=U/\∃x y z,e=[J (nv F),J (nv R),J (.ref cp),J (nv au),J (.int o8),J (.ref T.length),x,y,z,U,U,U,U,U])
     ⟨by rw[aa];rfl,rfl,x,U,U,rfl⟩ (λk w hk' e h z=>?_) λe h z=>?_
    .refine bc λkk=>?_;obtain⟨rfl,hf,x,y,z,rfl⟩:=z;refine kk ?_;clear kk;have n0:0<ms.length:=ar (dH _) hk';have il:=P6 (o8:=o8) (k:=k) n0;have hP2:pR (T++(.list vs::(jk++[O.aT (0:Nat) ms.length 1]))) T.length vs ms:=hP.mono (da _) λi o w g=>by
      rw[<- eD,<-aa];exact(ae (f0 g)).trans g
     refine bc λkk=>?_;obtain⟨qh,g1,g2,g3⟩:=hP2.get il;obtain⟨m,hm⟩:=(⟨_,rfl⟩:∃m,m=ms.getD (Je o8 ms.length k) (0,0))
     refine kk ?_;clear kk;have mm:m∈ms:=by
      rw[hm,ba,a7 il];exact du il
     rw[<- hm] at g3;have pk:DA F R aS ms o8 k=if tf F R aS m.1 m.2=b9 then J m else U:=by unfold DA;rw[<- hm]
     have mq:=mm;rw[hms] at mq;have kq:=hk m mq;obtain⟨q1,q2,q3,q4⟩:=rE.mp mq;have s1:m.1<F*R:=by rw[<- hl];exact q1
     refine Ax (pz ∅ (sE (uF (x:=.int o8) (y:=nv k) (z:=.int (o8+k)) ∅ ∅ rfl) (len rfl) n0) (io gv) g1 (cX il (by lia))) (vs:=[nv m.1,nv m.2]) g3 rfl ?_;refine lv (bi (lc rfl (lc rfl (lc rfl (lc rfl (lz rfl))))) (Ef hL s1 (qL hL hp s1 q4) (by rw[q3];exact kq) L')) bm (λe1=>?_) λe1=>om ⟨rfl,?_,_,_,_,rfl⟩
     .have fd:=PK hk' hf (pk.trans (cG e1));rw[fd] at q;refine Pb (h3:=T) (t:=(.list vs::(jk++[.aT (0:Nat) ms.length 1]))++[.tup [nv m.1,nv m.2]]) (i:=(O.list vs::(jk++[.aT (0:Nat) ms.length 1])).length) (v:=.ref (T++(.list vs::(jk++[O.aT (0:Nat) ms.length 1]))).length) ?_ (by rw[a6]) bn ?_ hc q λw w z=>z
      .rw[<- aa];exact sZ (lc rfl (lz rfl)) (by show(2:Nat)<=1000;decide)
      .exact As (l:=[m.1,m.2])
     .rw[yw,hf,pk,cH (by rw[e1];decide)];rfl
    .refine bc λkk=>?_;obtain⟨rfl,hf,x,y,z,rfl⟩:=z;refine kk ?_;clear kk;rw[hf] at q;refine Pb (h3:=T) (t:=(.list vs::(jk++[.aT (0:Nat) ms.length 1]))++[.tup []]) (i:=(O.list vs::(jk++[.aT (0:Nat) ms.length 1])).length) (v:=.ref (T++(.list vs::(jk++[O.aT (0:Nat) ms.length 1]))).length) ?_ (by rw[a6]) bn ?_ hc q λw w z=>z
     .rw[<- aa];exact sZ f8 (dH _)
     .exact λx h=>by cases h
end
structure YC (K:pN) (c:E) (e:nw) (h:H) (R:V->H->Prop):Prop where
 go:∀Q:V->H->Prop,(∀v h',R v h'->Q v h')->ev K c e h Q
section
variable{K:pN}{e:nw}{h h1 h2:H}{a b c it test elt n:E}{i p:Nat}{v x:V}{k:It}{r:Ss}{Q:QS}{es:Es}{vs us:List V}
theorem Sr{R:V->H->Prop}(A:YC K a e h R)(B:∀v h',R v h'->oI K r (e.set i (J v)) h' Q):oI K (.cons (.assign (.loc i) a) r) e h Q:=⟨A.go _ λv h' q=>(B v h' q).go⟩
theorem Ub(M:K.aV)(A:db K it e h x h1)(l:Fm K h1 x=J k)(N:Nat)(I:Nat->H->Prop)(z:I 0 (h1++[.list []]))(step:∀j,j<N->∀h,I j h->∃v y b h2,oG K k h x j=J (J v)/\db K test (e.set i (J v)) h y h2/\tr y=J b/\(b=b9->∃u h3 h4,db K elt (e.set i (J v)) h2 u h3/\pu (.ref h1.length) u h3=J (.none,h4)/\I (j+1) h4)/\(b=cj->I (j+1) h2))(done:∀h,I N h->oG K k h x N=J .none):YC K (.comp elt i it test) e h λv h'=>v= .ref h1.length/\I N h':=⟨λQ q=>A.go _ (by
 rw[l];refine⟨N+1,Bl (f:=λv h P=>ev K test (e.set i (J v)) h λy h=>yo (tr y) λt=>wT t (ev K elt (e.set i (J v)) h λu h=>P (J u) h) (P .none h)) (λv h P P' m w=>jp M test (λy h w=>p0 (λt w=>⟨λe1=>jp M elt (λu h w=>m _ _ w) (w.1 e1),λe1=>m _ _ (w.2 e1)⟩) w) w) N I (λj hj h w=>?_) (λh w=>⟨done h w,q _ _ ⟨rfl,w⟩⟩) N 0 _ (d6 N) z⟩;obtain⟨v,y,b,h2,q1,q2,q3,q4,q5⟩:=step j hj h w;refine⟨v,q1,q2.go _ ?_⟩;dsimp only;rw[q3];refine⟨λe1=>?_,λe1=>q5 e1⟩;obtain⟨u,h3,h4,r1,r2,r3⟩:=q4 e1;refine r1.go _ ?_;show tj (pu (.ref h1.length) u h3) λg h=>I (j+1) h;rw[r2];exact r3)⟩
theorem Nq(A:F7 K es e h vs h1)(B:db K n e h1 (nv m) h2)(l:vs.length<=10)(l':m<=1000):db K (.rep es n) e h (.ref h2.length) (h2++[.list (cZ m vs).flatten]):=⟨λQ q=>A.go _ ⟨cS l ⋯,B.go _ ⟨by show(0:Int)<=(m:Int);lia,by show(m:Int)<=1000;lia,l,by rw[fe];exact q⟩⟩⟩
def eqS(f:V->V->Option Bool):Option O->Option O->Option Bool
 | some (.list xs),J (.list ys)=>if xs.length == ys.length then qA f xs ys else J cj
 | some (.tup xs),J (.tup ys)=>(qA f xs ys).map λc=>c&&xs.length == ys.length
 | _,_=>.none
set_option smartUnfolding false in
theorem Ti{k a b:Nat}:vf (k+1) h (.ref a) (.ref b)=eqS (vf k h) h[a]? h[b]? :=rfl
theorem UT{p q:Nat}:th K .eq (.ref p) (.ref q) h=eqS (vf 3 h) h[p]? h[q]? :=Ti (k:=3)
theorem MF{f:V->V->Option Bool}{xs ys:List V}:eqS f (J (.tup xs)) (J (.tup ys))=(qA f xs ys).map λc=>c&&xs.length == ys.length:=rfl
theorem uM{f:V->V->Option Bool}{x y:V}{xs ys:List V}{a b:Bool}(h1:f x y=J a)(h2:qA f xs ys=J b):qA f (x::xs) (y::ys)=J (a&&b):=by
 rw[qA,h1,h2]
theorem Lv{k x y:Nat}:vf (k+1) h (nv x) (nv y)=J (cu (x=y)):=by
 show J ((x:Int) == (y:Int))=_;congr 1;rw[de];simp;lia
theorem HP{k:Nat}:∀{l l':List Nat},l.length=l'.length->qA (vf (k+1) h) (l.map nv) (l'.map nv)=J (cu (l=l'))
 | [],[],_=>rfl
 | [],_::_,q=>by cases q
 | _::_,[],q=>by cases q
 | x::l,y::l',q=>by
  refine(uM Lv (HP (gy q))).trans (cI J ?_);rw[de];simp
theorem TQ{k a b:Nat}{p r:Nat × Nat}(g:h[a]? =J (.tup [nv p.1,nv p.2]))(g':h[b]? =J (.tup [nv r.1,nv r.2])):vf (k+2) h (.ref a) (.ref b)=J (cu (p=r)):=by
 rw[Ti,g,g',MF,show qA (vf (k+1) h) [nv p.1,nv p.2] [nv r.1,nv r.2]=J (cu ([p.1,p.2]=[r.1,r.2])) from HP (l:=[p.1,p.2]) (l':=[r.1,r.2]) rfl];refine cI J ?_;rw[de];obtain⟨p1,p2⟩:=p;obtain⟨r1,r2⟩:=r;simp
theorem PS{k b b':Nat}:∀{vs us:List V} {ps rs:List (Nat × Nat)},pR h b vs ps->pR h b' us rs->ps.length=rs.length->qA (vf (k+2) h) vs us=J (cu (ps=rs))
 | [],[],[],[],_,_,_=>rfl
 | _::_,_,[],_,q,_,_=>q.elim
 | [],_,_::_,_,q,_,_=>q.elim
 | _,_::_,_,[],_,q,_=>q.elim
 | _,[],_,_::_,_,q,_=>q.elim
 | _::_,_::_,p::ps,r::rs,q,q',l=>by
  obtain⟨⟨x,rfl,_,g⟩,q2⟩:=q;obtain⟨⟨y,rfl,_,g'⟩,q2'⟩:=q';refine(uM (TQ g g') (PS q2 q2' (gy l))).trans (cI J ?_);rw[de];simp
theorem Nt{b b' p q:Nat}(g:h[p]? =J (.list vs))(g':h[q]? =J (.list us))(A:pR h b vs ps)(A':pR h b' us rs):th K .eq (.ref p) (.ref q) h=J (cu (ps=rs)):=by
 rw[UT,g,g'];show(if vs.length == us.length then qA (vf 3 h) vs us else J cj)=_;by_cases e1:ps.length=rs.length
 .rw[cG (by rw[A.len,A'.len];simpa using e1)];exact PS A A' e1
 .rw[cH (by rw[A.len,A'.len];simpa using e1)];congr 1;rw[eq_comm,cF];exact λe=>e1 (cI _ e)
theorem Mq{r:Nat × Nat}{b:Nat}(hq:b<q)(g:h[q]? =J (.tup [nv r.1,nv r.2])):∀n:Nat,pR h b (cZ n [V.ref q]).flatten (cZ n r)
 | 0=>trivial
 | n+1=>⟨⟨q,rfl,hq,g⟩,Mq hq g n⟩
end
def B5(F R:Nat)(aS:List Nat)(au:Nat):Option (Nat × Nat)->Bool
 | none=>cj
 | some m=>cu (aS.getD m.1 0≠0)&&(cu (aS.getD m.1 0/8=au)&&(cu (m.2∈ou F R aS m.1)&&tf F R aS m.1 m.2))
def wK(F R:Nat)(aS:List Nat)(az i:Nat):Bool:=cu (az >>> i &&& 1≠0)&&(cu (aS.getD (i/2*F*(R - 1)+3) 0=i/2*8+6)&&cu (aS.getD (i/2*F*(R - 1)+(F - 1)*(1 - i%2)) 0=i/2*8+4))
def sU(F R:Nat)(aS:List Nat)(az:Nat):Nat->Nat
 | 0=>0
 | n+1=>if wK F R aS az n=b9 then sU F R aS az n ||| 1 <<< n else sU F R aS az n
section
variable{d:Nat}{Q:V->H->Prop}{T:H}{s t cp wp au az:Nat}{aS:List Nat}
theorem Kw(hL:CL F R aS)(hp:Br F R aS)(hk:Do F R aS au)(L:T[cp]? =J (.list (aS.map nv)))(W:T[wp]? =J (AZ way))(hw:∀m,way=J m->m.1<F*R):
  ii (K0 (d+4)) 888 [nv F,nv R,.ref cp,nv au,.ref wp] T (.bool (B5 F R aS au way)) T:=by
 ext d T cp wp au aS way;exact mk (λQ=>KA rfl) λQ q hc=>by
   have hcp:=f0 L;have L':∀{l:H},(T++l)[cp]? =J (.list (aS.map nv)):=λ{l}=>by rw[ae hcp];exact L
   have W':∀{l:H},(T++l)[wp]? =J (AZ way):=λ{l}=>by rw[ae (f0 W)];exact W
   have g0:(T++[O.tup []])[T.length]? =J (.tup []):=bn;cases way with
   | none=>
    refine lv (x:=.bool b9) (t:=b9) (h1:=T++[.tup []]) (EG (x:=.bool b9) (t:=b9) (pF ∅ (sZ f8 (dH _)) ?_) rfl (λe=>by cases (e)) λw=>⟨rfl,rfl⟩) rfl (λw=>?_) λe=>by cases (e)
    .rw[UT,W',g0];rfl
    .exact xX (v:=.bool cj) o7 hc trivial q λw w z=>z
   | some m=>
    ext Q m;have hm:=hw m rfl;have wm:∀{l:H},(T++l)[wp]? =J (.tup ([m.1,m.2].map nv)):=λ{l}=>W';have rit:∀{e:nw} {l:H} {j:Nat},e[4]? =J (J (.ref wp))->j<2->db (K0 (d+3)) (.sub (.loc 4) (.int (fq j))) e (T++l) (nv ([m.1,m.2].getD j 0)) (T++l):=λ{e l j} l4 hj=>pz (r_loc l4) ac (ud wm) (v9 hj) (by lia);have ce:∀{e:nw} {l:H},e[4]? =J (J (.ref wp))->e[2]? =J (J (.ref cp))->db (K0 (d+3)) (.sub (.loc 2) (.sub (.loc 4) (.int 0))) e (T++l) (nv (aS.getD m.1 0)) (T++l):=λl4 l2=>sB L' hL hm (r_loc l2) (rit (j:=0) l4 ⋯);refine lv (h1:=T++[.tup []]) (EG (x:=.bool cj) (t:=cj) (pF ∅ (sZ f8 (dH _)) ?_) rfl (λw=>sQ (oQ (ce rfl rfl) ac) (tP (sX (ce rfl rfl) ac ⋯ ⋯) ∅)) λe=>by cases (e)) bm (λe1=>?_) λe1=>?_
    .rw[UT,W',g0];rfl
    .have:B5 F R aS au (J m)=cj:=by
      dsimp only[B5];rcases (cW _ _).mp e1 with h | h
      .rw[show cu (aS.getD m.1 0≠0)=cj from cD λz=>z (cy h)];rfl
      .rw[show cu (aS.getD m.1 0/8=au)=cj from cD (cy h),kO,fZ]
     rw[this] at q;exact xX (v:=.bool cj) o7 hc trivial q λw w z=>z
    .rw[fN] at e1;have c0:aS.getD m.1 0≠0:=cz e1.1;have c1:aS.getD m.1 0/8=au:=cM λz=>(cz e1.2) z;have bk:B5 F R aS au (J m)=(cu (m.2∈ou F R aS m.1)&&tf F R aS m.1 m.2):=by
      dsimp only[B5];rw[cC c0,cC c1,eU,eU]
     rw[bk] at q;have kg:=BJ (d:=d+1) (T:=T++[O.tup []]) hL hp hm L';have cm:db (K0 (d+3)) (.cmp (.sub (.loc 4) (.int 1)) .isin (.call 5 869 (.cons (.loc 0) (.cons (.loc 1) (.cons (.loc 2) (.cons (.sub (.loc 4) (.int 0)) .nil)))))) (oU 7 [nv F,nv R,.ref cp,nv au,.ref wp]) (T++[O.tup []]) (.bool (cu (m.2∈ou F R aS m.1))) (T++([O.tup []]++[.list ((ou F R aS m.1).map nv)])):=by
      rw[<- aa];exact pF (rit (j:=1) rfl ⋯) (bi (lc rfl (lc rfl (lc rfl (be (rit (j:=0) rfl ⋯) f8)))) kg) (by show(pQ _ _ _).bind _=_;rw[io bn];exact uu)
     by_cases hg:m.2∈ou F R aS m.1
     .rw[cC hg] at q cm;rw[eU] at q;have hL':aS.length=F*R:=hL.l;have mv:m∈rd F R aS au:=rE.mpr ⟨by rw[hL'];exact hm,c0,c1,hg⟩;exact xX (v:=.bool (tf F R aS m.1 m.2)) (h3:=T) (t:=[O.tup []]++[.list ((ou F R aS m.1).map nv)]) (ru cm rfl (λw=>bi (lc rfl (lc rfl (lc rfl (be (rit (j:=0) rfl ⋯) (be (rit (j:=1) rfl ⋯) f8))))) (Ef hL hm (qL hL hp hm hg) (by rw[c1];exact hk m mv) L')) λe=>by cases (e)) hc trivial q λw w z=>z
     .rw[cD hg] at q cm;exact xX (h3:=T) (t:=[O.tup []]++[.list ((ou F R aS m.1).map nv)]) (v:=.bool cj) (ru cm rfl (λe=>by cases (e)) λw=>⟨rfl,rfl⟩) hc trivial q λw w z=>z
theorem L4(hL:CL F R aS)(hr:az=0\/F=7/\R=3)(L:T[cp]? =J (.list (aS.map nv))):ii (K0 (d+1)) 895 [nv F,nv R,.ref cp,nv az] T (nv (sU F R aS az 4)) T:=by
 ext d T cp az aS;exact mk (λQ=>Mg rfl) λQ q hc=>by
   have hF:=hL.bd.f;have hR:=hL.bd.r;have L':∀{l:H},(T++l)[cp]? =J (.list (aS.map nv)):=λ{l}=>by rw[ae (f0 L)];exact L
   refine bs ac (rV (n:=0) (m:=4) (lw _) (qd (be ac f8) ⋯) bn ⋯ ⋯
    (λj e h=>T++[.aT 0 4 1]=h/\∃x y z,e=[J (nv F),J (nv R),J (.ref cp),J (nv az),J (nv (sU F R aS az j)),x,y,z,U,U]) ⟨rfl,U,U,U,rfl⟩ (λi w hi e h z=>?_) λe h z=>?_)
   .obtain⟨rfl,x,y,z,rfl⟩:=z;have i2:i/2<2:=by lia
    have hm1:i/2*F<1000000000:=by
     rcases (by lia:i/2=0\/i/2=1) with h | h<;>rw[h]<;>lia
    have hm2:(F - 1)<1000000000:=by lia
    refine bs (v:=nv (i/2*F*(R - 1))) (sr (sr (sX ∅ ac ⋯ ⋯) ∅ (cX i2 ⋯) (by lia)) (oM ∅ ac (cS ⋯ hR.1)) hm1 (ar (eO _ _) (by lia))) (bs (v:=nv (i/2*F*(R - 1)+(F - 1)*(1 - i%2)))
     (qK ∅ (sr (oM ∅ ac (cS ⋯ hF.1)) (oM ac (wF ∅ ac ⋯) (dk (mV _ ⋯))) (ar (eO _ _) (by lia)) (ar (eO _ _) ⋯))) ?_)
    obtain⟨k1,hk1⟩:=(⟨_,rfl⟩:∃k1,k1=i/2*F*(R - 1))
    obtain⟨k2,hk2⟩:=(⟨_,rfl⟩:∃k2,k2=i/2*F*(R - 1)+(F - 1)*(1 - i%2))
    have kd:wK F R aS az i=(cu (az >>> i &&& 1≠0)&&(cu (aS.getD (k1+3) 0=i/2*8+6)&&cu (aS.getD k2 0=i/2*8+4))):=by unfold wK;rw[hk1,hk2]
    have bnd:az >>> i &&& 1≠0->k1+3<F*R/\k2<F*R:=λh=>by
     rcases hr with h0 | ⟨h1,h2⟩
     .subst h0;exact cJ (by simp) h
     .rw[hk1,hk2,h1,h2];rcases (by lia:i=0\/i=1\/i=2\/i=3) with h | h | h | h<;>subst h<;>decide
    rw[<- hk2,<-hk1];have sh:db (K0 d) (.bin .band (.bin .shr (.loc 3) (.loc 5)) (.int 1)) [J (nv F),J (nv R),J (.ref cp),J (nv az),J (nv (sU F R aS az i)),J (nv i),J (nv k1),J (nv k2),U,U] (T++[.aT 0 4 1]) (nv (az >>> i &&& 1)) (T++[.aT 0 4 1]):=nb (rF ∅ ∅) ac;have cnd:∃x,db (K0 d) (.and (.bin .band (.bin .shr (.loc 3) (.loc 5)) (.int 1)) (.and (.cmp (.sub (.loc 2) (.bin .add (.loc 6) (.int 3))) .eq (.bin .add (.bin .mul (.bin .div (.loc 5) (.int 2)) (.int 8)) (.int 6))) (.cmp (.sub (.loc 2) (.loc 7)) .eq (.bin .add (.bin .mul (.bin .div (.loc 5) (.int 2)) (.int 8)) (.int 4))))) [J (nv F),J (nv R),J (.ref cp),J (nv az),J (nv (sU F R aS az i)),J (nv i),J (nv k1),J (nv k2),U,U] (T++[.aT 0 4 1]) x (T++[.aT 0 4 1])/\tr x=J (wK F R aS az i):=by
     rw[kd];by_cases h0:az >>> i &&& 1=0
     .exact⟨nv 0,ru (t:=cj) sh (by rw[oH,h0];rfl) (λe=>by cases e) λw=>⟨by rw[h0],rfl⟩,by rw[h0];rfl⟩
     .obtain⟨b1,b2⟩:=bnd h0;refine⟨.bool (cu (aS.getD (k1+3) 0=i/2*8+6)&&cu (aS.getD k2 0=i/2*8+4)),ru (t:=b9) sh (by rw[oH];exact cI J (cC h0)) (λw=>sP (oQ (sB L' hL b1 ∅ (qK ∅ ac)) (qK (sr (sX ∅ ac ⋯ ⋯) ac (cX i2 ⋯) ⋯) ac)) (oQ (sB L' hL b2 ∅ ∅) (qK (sr (sX ∅ ac ⋯ ⋯) ac (cX i2 ⋯) ⋯) ac))) (λe=>by cases e),?_⟩;rw[cC (p:=az >>> i &&& 1≠0) h0,eU];rfl
    obtain⟨cx,c1,c2⟩:=cnd;refine lv c1 c2 (λe1=>oN rfl (qu ac ∅ ⋯ (by lia)) r9 (ld (om ⟨rfl,J (nv i),J (nv k1),J (nv k2),?_⟩))) λe1=>om ⟨rfl,J (nv i),J (nv k1),J (nv k2),?_⟩
    .rw[sU,cG e1];rfl
    .rw[sU,cH (by rw[e1];decide)];rfl
   .obtain⟨rfl,x,y,z,rfl⟩:=z;exact xX (v:=nv (sU F R aS az 4)) ∅ hc trivial q λw w z=>z
end
section
variable{K:pN}{e:nw}{h h1 h2:H}{a b c:E}{i:Nat}{v x:V}{r sa:Ss}{Q:QS}{s t:Bool}{R:V->H->Prop}
theorem Z7(A:YC K c e h R)(B:∀v h',R v h'->∃t,tr v=J t/\(t=b9->oI K sa e h' (sw K r Q))/\(t=cj->oI K r e h' Q)):oI K (.cons (.ite c sa .nil) r) e h Q:=by
 exact⟨A.go _ λv h' q=>by
  obtain⟨t,h1,h2,h3⟩:=B v h' q;rw[h1];exact⟨λe=>(h2 e).go,λe=>(h3 e).go⟩⟩
theorem WH(A:YC K a e h R)(B:∀v h',R v h'->Q (.ret v) e h'):oI K (.cons (.ret a) r) e h Q:=⟨A.go _ λv h' q=>B v h' q⟩
theorem V4(A:db K a e h (.bool s) h1)(B:db K b e h1 (.bool t) h2):YC K (.or a b) e h λv h'=>v= .bool (s||t)/\(h'=h1\/h'=h2):=⟨λQ q=>A.go _ (by
 show wT s _ _;refine⟨λe1=>q _ _ ⟨by rw[e1];rfl,.inl rfl⟩,λe1=>B.go _ (q _ _ ⟨by rw[e1];rfl,.inr rfl⟩)⟩)⟩
theorem vV:(cn (n+1)).filter f=(cn n).filter f++if f n=b9 then[n] else[]:=by
 rw[gk,lE];congr 1;cases q:f n<;>simp [q]
end
def zu(aS:List Nat)(s:Nat):Bool:= !cu (aS.getD s 0%8∈[0,6])
def BR(F:Nat)(aS:List Nat)(s:Nat):Nat × Nat:=(aS.getD s 0%8,(s%F+s/F)%2)
def wP(F:Nat)(aS:List Nat):List (Nat × Nat):=((cn aS.length).filter (zu aS)).map (BR F aS)
def vC(F:Nat)(aS:List Nat):Bool:=(cu (wP F aS=[(2,0)])||decide (wP F aS=[(2,1)]))||(cu (wP F aS=cZ (wP F aS).length (3,0))||decide (wP F aS=cZ (wP F aS).length (3,1)))
section
variable{d:Nat}{Q:V->H->Prop}{T:H}{s t cp:Nat}{aS:List Nat}
theorem pR.app{h t:H}(hb:b'<=b)(P:pR h b vs ps):pR (h++t) b' vs ps:=P.mono hb λw w w g=>(ae (f0 g)).trans g
theorem VD{K:pN}(h0:0<h.length)(A:∀h,db K a e h (.ref p) h)(g:h[p]? =J (.list vs))(P:pR h 0 vs ps):
  db K (.cmp a .eq (.list (.cons (.tup (.cons (.int (fq x)) (.cons (.int (fq y)) .nil))) .nil))) e h (.bool (cu (ps=[(x,y)]))) (h++([.tup [nv x,nv y]]++[.list [.ref h.length]])):=by
 rw[<- aa];refine pF (A _) (qp (be (sZ (be ac (be ac f8)) (by show(2:Nat)<=1000;decide)) f8) (by show(1:Nat)<=1000;decide)) ?_;refine Nt (b':=0) ?_ bn ((P.app (da _)).app (da _)) ⟨⟨h.length,rfl,h0,(ae (by simp)).trans bn⟩,trivial⟩;rw[aa,ae (f0 g)];exact g
theorem VA{K:pN}(h0:0<h.length)(A:∀h,db K a e h (.ref p) h)(N:∀t,db K n e (h++t) (nv ps.length) (h++t))(hl:ps.length<=1000)(g:h[p]? =J (.list vs))(P:pR h 0 vs ps):
  db K (.cmp a .eq (.rep (.cons (.tup (.cons (.int (fq x)) (.cons (.int (fq y)) .nil))) .nil) n)) e h (.bool (cu (ps=cZ ps.length (x,y)))) (h++([.tup [nv x,nv y]]++[.list (cZ ps.length [V.ref h.length]).flatten])):=by
 rw[<- aa];refine pF (A _) (Nq (be (sZ (be ac (be ac f8)) (by show(2:Nat)<=1000;decide)) f8) (N _) (by show(1:Nat)<=10;decide) hl) ?_;refine Nt (b':=0) ?_ bn ((P.app (da _)).app (da _)) (Mq (r:=(x,y)) h0 ((ae (by simp)).trans bn) _);rw[aa,ae (f0 g)];exact g
theorem KG(hL:CL F R aS)(L:T[cp]? =J (.list (aS.map nv))):ii (K0 (d+1)) 900 [nv F,.ref cp] T (.bool (vC F aS)) T:=by
 ext d T cp aS;exact mk (λQ=>LV rfl) λQ q hc=>by
   have hcp:=f0 L;have hF:=hL.bd.f;have hsz:=hL.bd.sz;have hl:=hL.l;have F0:0<F:=by lia
   have L':∀{l:H},(T++l)[cp]? =J (.list (aS.map nv)):=λ{l}=>by rw[ae hcp];exact L
   have z0:=t5 (K:=K0 d) (i:=4) (a:=.loc 1) (h:=T) (e:=oU 5 [nv F,.ref cp]) ∅ (io L) (by rw[bj];lia);rw[bj] at z0;obtain⟨hb,hhb⟩:=(⟨_,rfl⟩:∃hb,hb=T++[O.aT ((0:Nat):Int) (aS.length:Int) 1])
   have rg:hb[T.length]? =J (.aT ((0:Nat):Int) (aS.length:Int) 1):=by rw[hhb];exact bn
   have Lb:∀{l:H},(hb++l)[cp]? =J (.list (aS.map nv)):=λ{l}=>by rw[hhb,aa];exact L'
   have rA:db (K0 d) (.range 3 (.cons (.len 4 (.loc 1)) .nil)) (oU 5 [nv F,.ref cp]) T (.ref T.length) hb:=by
    rw[hhb];exact qd (i:=3) (be z0 f8) (by lia)
   refine Sr (Ub (k:=.aT ((0:Nat):Int) aS.length 1) (lw _) rA (by
    simp only[Fm,tS,rg,rC (n:=aS.length) (by lia)];rfl) aS.length (λj h=>∃vs jk,h=hb++(.list vs::jk)/\pR h hb.length vs (((cn j).filter (zu aS)).map (BR F aS)))
    ⟨[],[],rfl,trivial⟩ (λj hj h z=>?_) λh z=>?_) λv h' z=>?_
   .obtain⟨vs,jk,rfl,hP⟩:=z;have hj2:j<F*R:=by rw[<- hl];exact hj
    have cell:∀{h:H} {e:nw},h[cp]? =J (.list (aS.map nv))->e[1]? =J (J (.ref cp))->e[5]? =J (J (nv j))->db (K0 d) (.bin .mod (.sub (.loc 1) (.loc 5)) (.int 8)) e h (nv (aS.getD j 0%8)) h:=λL l2 l3=>wF (sB L hL hj2 (r_loc l2) (r_loc l3)) ac ⋯;have L3:∀{l m:H},(hb++l++m)[cp]? =J (.list (aS.map nv)):=λ{l m}=>by rw[aa];exact Lb
    have L2:∀{l:H},(hb++l)[cp]? =J (.list (aS.map nv)):=Lb;refine⟨nv j,.bool (zu aS j),zu aS j,_,?_,pF (cell L2 rfl rfl) (sZ (be ac (be ac f8)) (by show(2:Nat)<=1000;decide)) ?_,rfl,λe1=>?_,λe1=>⟨vs,jk++[.tup [nv 0,nv 6]],by rw[aa,eD],?_⟩⟩
    .have:=tN (K:=K0 d) (h:=hb++(.list vs::jk)) (x:=.ref T.length) (n:=0) (m:=aS.length) (j:=j) (N:=aS.length) (d6 _);rw[cG hj,d6] at this;exact this
    .show(pQ _ _ _).bind _=_;rw[ud bn,eT];rw[show Aa _ (nv (aS.getD j 0%8)) [nv 0,nv 6]=J (cu (aS.getD j 0%8∈[0,6])) from uu (l:=[0,6])];rfl
    .have ln:=hP.len;have vl:vs.length<1000:=by
      rw[ln,bj];have:=eV (zu aS) (cn j);rw[dv] at this;lia
     refine⟨.ref (hb++(O.list vs::jk)++[O.tup [nv 0,nv 6]]).length,(hb++(O.list vs::jk)++[O.tup [nv 0,nv 6]])++[O.tup [nv (aS.getD j 0%8),nv ((j%F+j/F)%2)]],_,sZ (be (cell L3 rfl rfl) (be (wF (qK (wF ∅ ∅ F0) (sX ∅ ∅ F0 (by lia))) (ac (n:=2)) ⋯) f8)) (by show(2:Nat)<=1000;decide),by rw[aa,aa,eD];exact zn vl,_,_,rfl,?_⟩;rw[vV,cG e1,dR];refine pR.append (hP.mono (da _) λi o hi g=>?_) ⟨⟨_,rfl,?_,?_⟩,trivial⟩
     .rw[cT (dJ hi)] at g ⊢;obtain⟨k,hk2⟩:=iE hi;rw[show i - hb.length=k+1 by lia] at g ⊢;rw[jR] at g ⊢;show((jk++[O.tup [nv 0,nv 6]])++[O.tup [nv (aS.getD j 0%8),nv ((j%F+j/F)%2)]])[k]? =J o;rw[aa,ae (f0 g)];exact g
     .simp only[a6,eB,fc];lia
     .show(hb++(O.list _::((jk++[O.tup [nv 0,nv 6]])++[O.tup [nv (aS.getD j 0%8),nv ((j%F+j/F)%2)]])))[_]? =_;rw[<- eD,<-aa hb];exact pW (by simp only[a6,eB,fc])
    .rw[vV,cH (by rw[e1];decide),cP];exact hP.app (da _)
   .have:=tN (K:=K0 d) (h:=h) (x:=.ref T.length) (n:=0) (m:=aS.length) (j:=aS.length) (N:=aS.length) (d6 _);rw[cH (eZ _)] at this;exact this
   .obtain⟨rfl,vs,jk,rfl,hP⟩:=z;have hP:pR _ _ vs (wP F aS):=hP;have ll:(wP F aS).length<=aS.length:=by
     unfold wP;rw[bj];have:=eV (zu aS) (cn aS.length);rw[dv] at this;exact this
    have ln:=hP.len;unfold vC at q;obtain⟨fd,hfd⟩:=(⟨_,rfl⟩:∃fd,fd=wP F aS)
    rw[<- hfd] at hP ll ln q;obtain⟨h1,hh1⟩:=(⟨_,rfl⟩:∃h1,h1=hb++(.list vs::jk))
    obtain⟨p,hp⟩:=(⟨_,rfl⟩:∃p,p=hb.length)
    have pre:∃jk',h1=T++jk':=⟨_,by rw[hh1,hhb,aa]⟩
    have g:h1[p]? =J (.list vs):=by rw[hh1,hp];simp
    have h0:0<h1.length:=by rw[hh1];simp only[a6,eB,fc];lia
    rw[<- hh1,<-hp];rw[<- hh1,<-hp] at hP;have hP:=hP.app (t:=[]) (dH _);rw[cP] at hP;have gA:∀{t:H},(h1++t)[p]? =J (.list vs):=λ{t}=>(ae (f0 g)).trans g;have lenE:∀{e:nw} (t:H),e[2]? =J (J (.ref p))->db (K0 d) (.len 4 (.loc 2)) e (h1++t) (nv fd.length) (h1++t):=λ{e} t l=>by
     have z:=t5 (K:=K0 d) (i:=4) (a:=.loc 2) (e:=e) (r_loc l) (io (gA (t:=t))) (by lia);rw[ln] at z;exact z
    have h0':∀{t:H},0<(h1++t).length:=λ{t}=>by rw[a6];lia
    refine Z7 (V4 (VD h0 (λh=>r_loc rfl) g hP) (VD h0' (λh=>r_loc rfl) gA (hP.app (da _)))) λv h' z=>?_;obtain⟨rfl,hh⟩:=z;have ex:∃t,h'=h1++t:=by
     rcases hh with h | h
     .exact⟨_,h⟩
     .rw[aa] at h;exact⟨_,h⟩
    obtain⟨t1,rfl⟩:=ex;refine⟨_,rfl,λe1=>?_,λe1=>?_⟩
    .rw[e1] at q;obtain⟨jk',rfl⟩:=pre;rw[aa];exact xX (v:=.bool b9) o7 hc trivial q λw w z=>z
    .rw[e1,fy] at q;refine WH (V4 (VA h0' (λh=>r_loc rfl) (λt=>by rw[aa];exact lenE _ rfl) (by lia) gA (hP.app (da _))) (VA (by rw[aa];exact h0') (λh=>r_loc rfl) (λt=>by rw[aa,aa];exact lenE _ rfl) (by lia) (by rw[aa];exact gA) ((hP.app (da _)).app (da _)))) λv h' z=>?_;obtain⟨rfl,hh⟩:=z;have ex:∃t,h'=T++t:=by
      obtain⟨jk',rfl⟩:=pre;rcases hh with h | h
      .rw[aa,aa] at h;exact⟨_,h⟩
      .rw[aa,aa,aa] at h;exact⟨_,h⟩
     obtain⟨t2,rfl⟩:=ex;exact .inr (.inl ⟨T,t2,rfl,da _,hc,trivial,q⟩)
end
def qY(n:Nat):V->V
 | .ref k=>.ref (n+k)
 | v=>v
def J4(n:Nat):O->O
 | .list xs=>.list (xs.map (qY n))
 | .tup xs=>.tup (xs.map (qY n))
 | .inst c fs=>.inst c (fs.map λp=>(p.1,qY n p.2))
 | .aT a b s=>.aT a b s
theorem CW{b:Bool}{o:Option α}{k:α}{C:Prop}(h:gd b o=J k)(c:b=b9->o=J k->C):C:=c (uw h).1 (uw h).2
@[elab_as_elim] theorem sm{x p:α}{P:α->Prop}(h:J x=J p)(f:P x):P p:=cL h▸f
def V.i?(v:V):Option Int:=match v with | .int i=>J i | _=>Option.none
theorem vj{v:V}(h:v.i? =J i):v= .int i:=by cases v<;>first | exact oJ h | exact cI V.int (cL h)
def nI:Int->Option Nat
 | .ofNat n=>J n
 | .negSucc _=>U
theorem GZ(h:nI i=J n):i=(n:Int):=by cases i<;>first | exact oJ h | exact cI fq (cL h)
def V.n?(v:V):Option Nat:=v.i?.bind nI
theorem Ln(h:v.n? =J n):v=nv n:=bd h λi e h=>(vj e).trans (cI V.int (GZ h))
def V.r?(v:V):Option Nat:=match v with | .ref i=>J i | _=>Option.none
theorem Bz{v:V}(h:v.r? =J i):v= .ref i:=by cases v<;>first | exact oJ h | exact cI V.ref (cL h)
def O.l? :O->Option (List V)
 | .list xs=>J xs
 | .tup _=>U
 | .inst _ _=>U
 | .aT _ _ _=>U
theorem KX{o:O}(h:o.l? =J xs):o= .list xs:=by cases o<;>first | exact oJ h | exact cI O.list (cL h)
def O.s? :O->Option (List V)
 | .list xs=>J xs
 | .tup xs=>J xs
 | .inst _ _=>U
 | .aT _ _ _=>U
def O.f? :O->Option (Nat × List (Nat × V))
 | .inst c fs=>J (c,fs)
 | .tup _=>U
 | .list _=>U
 | .aT _ _ _=>U
theorem LZ{o:O}(h:o.f? =J p):o= .inst p.1 p.2:=by cases o<;>first | exact oJ h | exact cI (λp=>O.inst p.1 p.2) (cL h)
def O.g? :O->Option (Int × Int × Int)
 | .aT a b s=>J (a,b,s)
 | .tup _=>U
 | .list _=>U
 | .inst _ _=>U
theorem Yp{o:O}(h:o.g? =J p):o= .aT p.1 p.2.1 p.2.2:=by cases o<;>first | exact oJ h | exact cI (λp=>O.aT p.1 p.2.1 p.2.2) (cL h)
def n2(a b:Int)(f:Nat->Nat->Option Nat):Option Int:=(nI a).bind λa=>(nI b).bind λb=>(f a b).map fq
def Wb:Fk->Int->Int->Option Int
 | .add,a,b=>J (a+b)
 | .sub,a,b=>J (a - b)
 | .mul,a,b=>gd (small a&&small b) (J (a*b))
 | .div,a,b=>n2 a b λa b=>gd (cu (0<b)&&cu (b<1000000)) (J (a/b))
 | .mod,a,b=>n2 a b λa b=>gd (cu (0<b)) (J (a%b))
 | .shl,a,b=>n2 a b λa b=>gd (cu (a<1000000000)&&cu (b<=1000000)) (J (a <<< b))
 | .shr,a,b=>n2 a b λa b=>J (a >>> b)
 | .band,a,b=>(nI a).bind λa=>match b with | .ofNat b=>J (fq (a &&& b)) | .negSucc b=>J (fq (oq a b))
 | .bor,a,b=>n2 a b λa b=>J (a ||| b)
 | .bxor,_,_=>U
def RW(o:Fk)(x y:V):Option Int:=x.i?.bind λa=>y.i?.bind λb=>Wb o a b
def V1:Kp->Int->Int->Option Bool
 | .eq,a,b=>J (a == b)
 | .lt,a,b=>J (cu (a<b))
 | .gt,a,b=>J (cu (b<a))
 | .ge,a,b=>J (cu (b<=a))
 | .ne,_,_=>U
 | .le,_,_=>U
 | .is,_,_=>U
 | .isnot,_,_=>U
 | .isin,_,_=>U
 | .b7,_,_=>U
def ZG(o:Kp)(x y:V):Option Bool:=x.i?.bind λa=>y.i?.bind λb=>V1 o a b
def trI:V->Option Bool
 | .bool b=>J b
 | .int i=>J (i != 0)
 | .none=>U
 | .str _=>U
 | .ref _=>U
 | .con _=>U
def Y2(h:H):V->Option (List V)
 | .ref p=>h[p]?.bind O.s?
 | .con a=>(yD a).bind λp=>gd (!p.1) (J p.2)
 | .none=>U
 | .bool _=>U
 | .int _=>U
 | .str _=>U
def WB(h:H)(x y:V):Option V:=(Y2 h x).bind λxs=>y.n?.bind λi=>gd (cu (i<1000000)) xs[i]?
def VK(h:H)(x:V)(n:Nat):Option V:=x.r?.bind λp=>h[p]?.bind λo=>o.f?.bind λcf=>cf.2.lookup n
def Wl(h:H)(x:V)(n:Nat)(v:V):Option H:=x.r?.bind λp=>h[p]?.bind λo=>o.f?.bind λcf=>gd (cu (cf.2.length<100)) (J (h.set p (.inst cf.1 (ER n v cf.2))))
def PV(h:H)(x y v:V):Option H:=x.r?.bind λp=>y.n?.bind λi=>h[p]?.bind λo=>o.l?.bind λxs=>gd (cu (i<xs.length)&&cu (i<1000000)) (J (h.set p (.list (xs.set i v))))
def WT(h:H)(x v:V):Option H:=x.r?.bind λp=>h[p]?.bind λo=>o.l?.bind λxs=>gd (cu (xs.length<1000)) (J (h.set p (.list (xs++[v]))))
def ZO(h:H)(is:List Int):Option (V × H):=match is with
 | []=>U
 | a::r=>match r with
  | []=>gd (yP a) (J (.ref h.length,h++[.aT 0 a 1]))
  | b::r=>match r with
   | []=>U
   | s::r=>gd (r.isEmpty&&(yP a&&yP b&&(s == 1||s == 2||s == -1))) (J (.ref h.length,h++[.aT a b s]))
def Z1(h:H)(vs:List V):Option (V × H):=(uK vs).bind (ZO h)
def YH(h:H)(x:V):Option (Int × Int × Int):=x.r?.bind λp=>h[p]?.bind λo=>o.g?.bind λt=>gd (yP t.1&&yP t.2.1&&(t.2.2 == 1||t.2.2 == 2||t.2.2 == -1)) (J t)
def ML(lp:Nat)(f:V->H->Option (V × H)):Nat->Int->Int->H->Option H
 | 0,_,_,h=>J h
 | n+1,x,s,h=>(f (.int x) h).bind λp=>(WT p.2 (.ref lp) p.1).bind λh=>ML lp f n (x+s) s h
def ZJ(v:V):Bool:=v.ctorIdx == 2||v.ctorIdx == 5
def Tl(v:V):Bool:=v.ctorIdx == 0
mutual
noncomputable def rh(C:Nat->List V->H->Option (V × H)):E->nw->H->Option (V × H)
 | .bK,_,h=>J (.none,h)
 | .bool b,_,h=>J (.bool b,h)
 | .int i,_,h=>J (.int i,h)
 | .loc i,e,h=>e[i]?.bind λo=>o.bind λv=>J (v,h)
 | .glo _ v,_,h=>gd (ZJ v) (J (v,h))
 | .and a b,e,h=>(rh C a e h).bind λp=>(trI p.1).bind λt=>cond t (rh C b e p.2) (J p)
 | .or a b,e,h=>(rh C a e h).bind λp=>(trI p.1).bind λt=>cond t (J p) (rh C b e p.2)
 | .neg a,e,h=>(rh C a e h).bind λp=>p.1.i?.bind λi=>J (.int (-i),p.2)
 | .inv a,e,h=>(rh C a e h).bind λp=>p.1.i?.bind λi=>J (.int (-i - 1),p.2)
 | .bin o a b,e,h=>(rh C a e h).bind λp=>(rh C b e p.2).bind λq=>(RW o p.1 q.1).bind λz=>J (.int z,q.2)
 | .cmp a o b,e,h=>(rh C a e h).bind λp=>(rh C b e p.2).bind λq=>(ZG o p.1 q.1).bind λz=>J (.bool z,q.2)
 | .list es,e,h=>(LY C es e h).bind λp=>gd (cu (p.1.length<=1000)) (J (.ref p.2.length,p.2++[.list p.1]))
 | .tup es,e,h=>(LY C es e h).bind λp=>gd (cu (p.1.length<=1000)) (J (.ref p.2.length,p.2++[.tup p.1]))
 | .rep es n,e,h=>(LY C es e h).bind λp=>(rh C n e p.2).bind λq=>q.1.n?.bind λk=>gd (cu (p.1.length<=10)&&cu (k<=1000)) (J (.ref q.2.length,q.2++[.list (cZ k p.1).flatten]))
 | .comp elt i iter test,e,h=>(rh C iter e h).bind λp=>(YH p.2 p.1).bind λt=>gd (C9 test) ((ML p.2.length (λv h=>rh C elt (e.set i (J v)) h) (pI t.1 t.2.1 t.2.2) t.1 t.2.2 (p.2++[.list []])).bind λh'=>J (.ref p.2.length,h'))
 | .call _ f es,e,h=>(LY C es e h).bind λp=>C f p.1 p.2
 | .range _ es,e,h=>(LY C es e h).bind λp=>Z1 p.2 p.1
 | .append a x,e,h=>(rh C a e h).bind λp=>gd (TW p.2 p.1) ((rh C x e p.2).bind λq=>(WT q.2 p.1 q.1).bind λh=>J (.none,h))
 | .attr a n,e,h=>(rh C a e h).bind λp=>(VK p.2 p.1 n).bind λv=>J (v,p.2)
 | .sub a b,e,h=>(rh C a e h).bind λp=>(rh C b e p.2).bind λq=>(WB q.2 p.1 q.1).bind λv=>J (v,q.2)
 | .str _,_,_=>U
 | .not _,_,_=>U
 | .ite _ _ _,_,_=>U
 | .bU _ _ _ _ _,_,_=>U
 | .len _ _,_,_=>U
 | .abs _ _,_,_=>U
 | .index _ _,_,_=>U
 | .pop _,_,_=>U
 | .slice _ _ _,_,_=>U
noncomputable def LY(C:Nat->List V->H->Option (V × H)):Es->nw->H->Option (List V × H)
 | .nil,_,h=>J ([],h)
 | .cons a es,e,h=>(rh C a e h).bind λp=>(LY C es e p.2).bind λq=>J (p.1::q.1,q.2)
end
abbrev St:=Option V × nw × H
def IG(f:V->nw->H->Option St):Nat->Int->Int->nw->H->Option (nw × H)
 | 0,_,_,e,h=>J (e,h)
 | n+1,x,s,e,h=>(f (.int x) e h).bind λp=>gd p.1.isNone (IG f n (x+s) s p.2.1 p.2.2)
def YM(C:Nat->List V->H->Option (V × H)):af->V->nw->H->Option (nw × H)
 | .loc i,v,e,h=>J (e.set i (J v),h)
 | .attr p n,v,e,h=>(rh C p e h).bind λx=>(Wl x.2 x.1 n v).bind λh=>J (e,h)
 | .sub p q,v,e,h=>(rh C p e h).bind λx=>(rh C q e x.2).bind λy=>(PV y.2 x.1 y.1 v).bind λh=>J (e,h)
 | .tup _,_,_,_=>U
def ZY(C:Nat->List V->H->Option (V × H))(o:Fk)(a:E):af->nw->H->Option (nw × H)
 | .loc i,e,h=>e[i]?.bind λx=>x.bind λx=>(rh C a e h).bind λp=>(RW o x p.1).bind λz=>J (e.set i (J (.int z)),p.2)
 | .sub p q,e,h=>(rh C p e h).bind λx=>(rh C q e x.2).bind λy=>(WB y.2 x.1 y.1).bind λu=>(rh C a e y.2).bind λw=>(RW o u w.1).bind λz=>(PV w.2 x.1 y.1 (.int z)).bind λh=>J (e,h)
 | .attr _ _,_,_=>U
 | .tup _,_,_=>U
def YS:af->Option Nat
 | .loc i=>J i
 | .attr _ _=>U
 | .sub _ _=>U
 | .tup _=>U
mutual
noncomputable def WX(C:Nat->List V->H->Option (V × H)):S->nw->H->Option St
 | .assign t a,e,h=>(rh C a e h).bind λp=>(YM C t p.1 e p.2).bind λq=>J (U,q.1,q.2)
 | .aug t o a,e,h=>(ZY C o a t e h).bind λq=>J (U,q.1,q.2)
 | .expr a,e,h=>(rh C a e h).bind λp=>gd (Tl p.1) (J (U,e,p.2))
 | .ret a,e,h=>(rh C a e h).bind λp=>J (J p.1,e,p.2)
 | .ite c a b,e,h=>(rh C c e h).bind λp=>(trI p.1).bind λt=>cond t (xc C a e p.2) (xc C b e p.2)
 | .each t it b,e,h=>(YS t).bind λi=>(rh C it e h).bind λp=>(YH p.2 p.1).bind λt=>(IG (λv e h=>xc C b (e.set i (J v)) h) (pI t.1 t.2.1 t.2.2) t.1 t.2.2 e p.2).bind λq=>J (U,q.1,q.2)
 | .loop _ _,_,_=>U
 | .brk,_,_=>U
 | .fail,_,_=>U
noncomputable def xc(C:Nat->List V->H->Option (V × H)):Ss->nw->H->Option St
 | .nil,e,h=>J (U,e,h)
 | .cons s r,e,h=>(WX C s e h).bind λp=>cond p.1.isNone (xc C r p.2.1 p.2.2) (J p)
end
def fnT:List (Nat × (Nat × Fn)):=[(174,(5,wJ)),(188,(2,Ah)),(195,(6,BM)),(202,(5,wB)),(209,(13,En)),(216,(3,BI)),(223,(12,yp)),(230,(8,yn)),(237,(12,wE)),(293,(5,wC)),(825,(5,xD))]
def U1:List (Nat × (Nat × Nat)):=[(177,(0,174)),(296,(1,293)),(828,(2,825))]
def CI:Nat->Nat->List V->H->Option (V × H)
 | 0,_,_,_=>U
 | n+1,f,vs,h=>match U1.lookup f with
  | some c=>(CI n c.2 (.ref h.length::vs) (h++[.inst c.1 []])).bind λp=>gd (Tl p.1) (J (.ref h.length,p.2))
  | none=>(fnT.lookup f).bind λq=>gd (q.2.na == vs.length) ((xc (CI n) q.2.body (oU q.1 vs) h).bind λp=>J (p.1.getD .none,p.2.2))
def QR(C:Nat->List V->H->Option (V × H)):Nat->Ss->nw->H->Option (nw × H × Ss)
 | 0,r,e,h=>J (e,h,r)
 | n+1,.cons s r,e,h=>(WX C s e h).bind λp=>gd p.1.isNone (QR C n r p.2.1 p.2.2)
 | _+1,.nil,_,_=>U
structure Cv (n:Nat) (bM e Z:nw):Prop where
 len:e.length=Z.length
 bZ:∀(i:Nat) (v:V),e[i]? =J (J v)->Z[i]? =J (J (qY n v))
 none_:∀i:Nat,e[i]? =J U->Z[i]? =bM[i]?
theorem Cv.set(c:Cv n bM e Z)(i:Nat)(v:V):Cv n bM (e.set i (J v)) (Z.set i (J (qY n v))) where
 len:=by rw[cR,cR];exact c.len
 bZ:=λj u g=>(t9 g).elim (λg=>by
  rw[<- g.1,cL g.2.1,fU (c.len▸g.2.2)]) λg=>by
  rw[eN g.1];exact c.bZ j u g.2
 none_:=λj g=>(t9 g).elim (λg=>nomatch g.2.1) λg=>by
  rw[eN g.1];exact c.none_ j g.2
def qx(T h:H):H:=T++h.map (J4 T.length)
section
variable{T h h' t:H}{p i:Nat}{o:O}{v x y:V}{xs:List V}{K:pN}{b:Bool}
theorem yG:(qx T h).length=T.length+h.length:=by unfold qx;rw[a6,bj]
theorem wd(g:h[p]? =J o):(qx T h)[T.length+p]? =J (J4 T.length o):=by
 unfold qx;rw[cT (di _ _),d8,cY,g];rfl
theorem LB:qx T (h++t)=qx T h++t.map (J4 T.length):=by unfold qx;rw[dR,aa]
theorem K2:qx T (h.set p o)=(qx T h).set (T.length+p) (J4 T.length o):=by
 unfold qx;rw[eA _ _ (di _ _),d8,lY]
theorem X2{a b z:Int}{f:Nat->Nat->Option Nat}{C:Int->Int->Int->Prop}(q:n2 a b f=J z)(c:∀m n k,f m n=J k->C (m:Int) (n:Int) (k:Int)):C a b z:=
 bd q λm e1 q=>bd q λn e2 q=>by
  obtain⟨k,e3,e4⟩:=dj.mp q;rw[GZ e1,GZ e2,<-e4];exact c m n k e3
theorem nn{o:Fk}{a b k:Nat}(q:∀Q:V->H->Prop,tj (pD o (nv a) (nv b) h) Q=Q (nv k) h):pD o (nv a) (nv b) h=J (nv k,h):=J1 q
theorem Qy{op:Fk}{a b z:Int}(q:Wb op a b=J z):pD op (.int a) (.int b) h=J (.int z,h):=by
 have N:=λ{o:Fk} (f:Nat->Nat->Option Nat) (q:n2 a b f=J z) (c:∀m n k,f m n=J k->pD o (nv m) (nv n) h=J (nv k,h))=>X2 (C:=λa b z=>pD o (.int a) (.int b) h=J (.int z,h)) q c;cases op with
 | add=>exact cI (λz=>J (V.int z,h)) (cL q)
 | sub=>exact cI (λz=>J (V.int z,h)) (cL q)
 | mul=>exact CW q λhs q=>(cG hs).trans (cI (λz=>J (V.int z,h)) (cL q))
 | div=>exact N _ q λm n k q=>CW q λhs q=>sm q (nn λQ=>RJ (cy (bl hs)) (cy (br hs)))
 | mod=>exact N _ q λm n k q=>CW q λhs q=>sm q (nn λQ=>VC (cy hs))
 | shl=>exact N _ q λm n k q=>CW q λhs q=>sm q (nn λQ=>VV (cy (bl hs)) (cy (br hs)))
 | shr=>exact N _ q λm n k q=>sm q (nn λQ=>SR)
 | band=>
  refine bd q λm e q=>?_;rw[GZ e];cases b with
  | ofNat b=>exact sm (P:=λz=>pD .band (.int (m:Int)) (.int (b:Int)) h=J (.int z,h)) q (nn λQ=>RI)
  | negSucc b=>
   refine sm (P:=λz=>pD .band (.int (m:Int)) (.int (mz b)) h=J (.int z,h)) q ?_;show J (V.int (fY (m:Int) (mz b)),h)=J (V.int ((oq m b:Nat):Int),h);rw[show mz b=dZ (b:Int) from(Int.negSucc_eq b).trans (Int.neg_add ..),Du]
 | bor=>exact N _ q λm n k q=>sm q (nn λQ=>Qt)
 | bxor=>exact oJ q
theorem MD(q:RW op x y=J z):pD op (qY T.length x) (qY T.length y) h=J (.int z,h):=bd q λa e1 q=>bd q λb e2 q=>by
 rw[vj e1,vj e2];exact Qy q
theorem Sc(q:V1 op a c=J b):th K op (.int a) (.int c) h=J b:=by cases op<;>first | exact q | exact oJ q
theorem Vm(q:ZG op x y=J b):th K op (qY T.length x) (qY T.length y) h=J b:=bd q λa e1 q=>bd q λb e2 q=>by
 rw[vj e1,vj e2];exact Sc q
theorem LE(q:trI x=J b):tr (qY T.length x)=J b:=by cases x<;>first | exact q | exact oJ q
theorem Oy(q:yD a=J (cj,xs)):xs.map (qY n)=xs:=by
 have z:=cN.mp (cN.mp (show(Mk.all λq=>q.2.1||q.2.2.all λv=>v.ctorIdx == 2)=b9 by decide +kernel) _ (HL q));refine(kZ λv hv=>?_).trans (List.map_id _);exact V.int.elim (motive:=λv=>qY n v=v) v (cK (z v hv)) λw=>rfl
theorem Xh(g:h[q]? =J o)(e:o.s? =J xs):pQ K (qx T h) (.ref (T.length+q))=J (xs.map (qY T.length)):=by
 cases o with
 | list ys=>exact(io (wd g)).trans (cI (λxs=>J (xs.map (qY T.length))) (cL e))
 | tup ys=>exact(ud (wd g)).trans (cI (λxs=>J (xs.map (qY T.length))) (cL e))
 | inst _ _=>exact oJ e
 | aT _ _ _=>exact oJ e
theorem Ug(C:Cn con)(hK:K.con=con)(q:Y2 h x=J xs):pQ K (qx T h) (qY T.length x)=J (xs.map (qY T.length)):=by
 cases x with
 | ref p=>exact bd q λo g e=>Xh g e
 | con a=>
  refine bd q λp g e=>CW e λe1 e2=>?_;have hp:p=(cj,xs):=iJ (nt e1) (cL e2);rw[hp] at g;rw[Oy g];exact JS (o:=(cj,[])) (hK▸C _ _ g)
 | none=>exact oJ q
 | bool _=>exact oJ q
 | int _=>exact oJ q
 | str _=>exact oJ q
theorem M0(C:Cn con)(hK:K.con=con)(q:WB h x y=J v):xf K (qY T.length x) (qY T.length y) (qx T h)=J (qY T.length v):=bd q λxs g q=>bd q λi e q=>CW q λl q=>by
 rw[Ln e];show xf K _ (.int (i:Int)) _=_;unfold xf;dsimp only[YA];rw[Ug C hK g,eT];rw[cG ⟨dU i,eK.mpr (cy l)⟩,fe,cY,q];rfl
theorem Gm:∀{fs:List (Nat × V)},(fs.map λp=>(p.1,qY n p.2)).lookup k=(fs.lookup k).map (qY n)
 | []=>rfl
 | (m,u)::fs=>by
  rw[dA,d9,d9];cases k == m
  .exact Gm
  .rfl
theorem Qs(q:VK h x k=J v):w9 (qY T.length x) k (qx T h)=J (qY T.length v):=bd q λp e q=>bd q λo g q=>bd q λcf f q=>by
 rw[Bz e];show w9 (.ref _) k _=_;unfold w9;dsimp only[SA];rw[wd g,LZ f];exact Gm.trans (cI _ q)
theorem QY:∀{fs:List (Nat × V)},ER k (qY n v) (fs.map λp=>(p.1,qY n p.2))=(ER k v fs).map λp=>(p.1,qY n p.2)
 | []=>rfl
 | (m,u)::fs=>by
  show(if m == k then _ else _)=kE _ (if m == k then _ else _);cases m == k
  .exact cI ((m,qY n u)::·) QY
  .rfl
theorem QQ(q:Wl h x k v=J h'):rW (qY T.length x) k (qY T.length v) (qx T h)=J (qx T h'):=bd q λp e q=>bd q λo g q=>bd q λcf f q=>CW q λl q=>by
 rw[Bz e,<-cL q,K2];show rW (.ref _) k _ _=_;unfold rW;dsimp only[SA];rw[wd g,LZ f];refine(cG (by rw[bj];exact cy l)).trans ?_;rw[QY];rfl
theorem TS(h:i<1000000):(i:Int)<1000000:=by lia
theorem Jr(q:PV h x y v=J h'):pZ (qY T.length x) (qY T.length y) (qY T.length v) (qx T h)=J (qx T h'):=by
 ext T h h' v x y;exact bd q λp e q=>bd q λi e2 q=>bd q λo g q=>bd q λxs f q=>CW q λl q=>by
  rw[Bz e,Ln e2,<-cL q,K2];have g2:(qx T h)[T.length+p]? =_:=(wd g).trans (cI (λo=>J (J4 T.length o)) (KX f));refine(Bq (λxs=>if 0<=(i:Int)/\(i:Int)<1000000/\(i:Int).toNat<xs.length then J ((qx T h).set (T.length+p) (.list (xs.set (i:Int).toNat (qY T.length v)))) else U) g2).trans ?_;rw[cG ⟨dU i,TS (cy (br l)),by rw[bj];exact cy (bl l)⟩,fe];exact cI (λl=>J ((qx T h).set (T.length+p) (.list l))) lY.symm
theorem MO(q:WT h x v=J h'):pu (qY T.length x) (qY T.length v) (qx T h)=J (.none,qx T h'):=bd q λp e q=>bd q λo g q=>bd q λxs f q=>CW q λl q=>by
 rw[Bz e,<-cL q,K2];show pu (.ref _) _ _=_;unfold pu;dsimp only[SA];rw[wd g,KX f];refine(cG (by rw[bj];exact cy l)).trans ?_;exact cI (λl=>J (V.none,(qx T h).set (T.length+p) (.list l))) (dR (f:=qY T.length) (l₁:=xs) (l₂:=[v])).symm
theorem Ux{is:List Int}:(is.map V.int).map (qY n)=is.map V.int:=by rw[h9];rfl
theorem E6:∀is:List Int,uK (is.map V.int)=J is
 | []=>rfl
 | i::is=>by
  show(uK (is.map V.int)).map (i::·)=_;rw[E6 is];rfl
theorem UU{p:V × H}(q:Z1 h xs=J p):te (xs.map (qY T.length)) (qx T h)=J (qY T.length p.1,qx T p.2):=by
 ext T h xs p;exact bd q λis e q=>by
  rw[yL e,Ux];unfold te;rw[E6,eT];have up1:∀{a b c:Int},J (V.ref (qx T h).length,qx T h++[O.aT a b c])=J (qY T.length (.ref h.length),qx T (h++[.aT a b c])):=λ{a b c}=>by rw[yG,LB];rfl
  match is,q with
  | [a],q=>exact CW q λl q=>sm q ((cG l).trans up1)
  | a::b::s::r,q=>exact CW q λl q=>sm q ((cG l).trans up1)
  | [],q=>exact oJ q
  | [_,_],q=>exact oJ q
theorem Q6{t:Int × Int × Int}(q:YH h x=J t):Fm K (qx T h) (qY T.length x)=J (.aT t.1 t.2.1 t.2.2):=bd q λp e q=>bd q λo g q=>bd q λu f q=>CW q λl q=>sm q (by
 rw[Bz e];show Fm K _ (.ref _)=_;unfold Fm;rw[show tS K (qx T h) (.ref _)=J (.aT u.1 u.2.1 u.2.2) from(wd g).trans (cI (λo=>J (J4 T.length o)) (Yp f))];exact cG l)
end
abbrev CT:=Nat->List V->H->Option (V × H)
def V0(K:pN)(T:H)(C:CT):Prop:=∀f vs h p,C f vs h=J p->ii K f (vs.map (qY T.length)) (qx T h) (qY T.length p.1) (qx T p.2)
section
variable{T:H}{K:pN}{con:Nat->Option O}{C:CT}{bM:nw}
theorem He:qx T h++[J4 T.length o]=qx T (h++[o]):=by rw[LB];rfl
theorem Lq(A:db K c Z h0 (.ref (qx T h).length) (qx T h++[J4 T.length o])):db K c Z h0 (qY T.length (.ref h.length)) (qx T (h++[o])):=by
 rw[He,yG] at A;exact A
theorem SE(l:j<pI a b s):oG K (.aT a b s) h x j=J (J (.int (a+j*s))):=cI J (cG l)
theorem NM:oG K (.aT a b s) h x (pI a b s)=J U:=cI J (cH (eZ _))
theorem No:a+((k+1:Nat):Int)*s=a+k*s+s:=by rw[Int.natCast_succ,Int.add_mul,Int.one_mul,ip]
theorem NK(l:k<n):n - k=(n - (k+1))+1:=(jJ (gr l)).symm
theorem NJ:a+((0:Nat):Int)*s=a:=by rw[mr,Int.zero_mul,Int.add_zero]
theorem XT(A:db K a e h p h1)(hl:TW h1 p=b9)(B:db K x e h1 v h2)(q:pu p v h2=J (.none,h3)):db K (.append a x) e h .none h3:=⟨λQ w=>A.go _ ⟨hl,B.go _ (by rw[q];exact w)⟩⟩
theorem Wo(q:TW h v=b9):TW (qx T h) (qY T.length v)=b9:=by
 obtain⟨p,xs,rfl,g⟩:=Mo q;show(match (qx T h)[T.length+p]? with | some (.list _)=>b9 | _=>cj)=b9;rw[wd g];rfl
theorem WV(h:ZJ v=b9):qY n v=v:=(ew.mp h).elim (λh=>V.int.elim (motive:=λv=>qY n v=v) v (cK h) λw=>rfl) λh=>V.con.elim (motive:=λv=>qY n v=v) v (cK h) λw=>rfl
theorem HI(h:Tl v=b9):v= .none:=V.none.elim (motive:=λv=>v= .none) v (cK h) rfl
theorem TD{elt it:E}{i:Nat}{e Z:nw}{h:H}{t:Int × Int × Int}{p:V × H}{h':H}(M:K.aV)(c:Cv T.length bM e Z)(A:db K it Z (qx T h) (qY T.length p.1) (qx T p.2))(e2:YH p.2 p.1=J t)(F:∀{v:V} {h:H} {q:V × H},rh C elt (e.set i (J v)) h=J q->db K elt (Z.set i (J (qY T.length v))) (qx T h) (qY T.length q.1) (qx T q.2))(q:ML p.2.length (λv h=>rh C elt (e.set i (J v)) h) (pI t.1 t.2.1 t.2.2) t.1 t.2.2 (p.2++[.list []])=J h'):db K (.comp elt i it (.bool b9)) Z (qx T h) (qY T.length (.ref p.2.length)) (qx T h'):=by
 ext T K C bM elt it i e Z h t p h';have z:=Ff (h':=qx T h') (elt:=elt) (i:=i) (test:=.bool b9) M A (Q6 e2) (pI t.1 t.2.1 t.2.2) (λk hh=>∃g,hh=qx T g/\ML p.2.length (λv h=>rh C elt (e.set i (J v)) h) (pI t.1 t.2.1 t.2.2 - k) (t.1+k*t.2.2) t.2.2 g=J h')
  ⟨_,He (o:=.list []),by rw[NJ];exact q⟩ (λk hk hh z=>z.elim λg z=>?_) λhh z=>z.elim λg z=>⟨NM,?_⟩
 .rw[yG] at z;exact z
 .have q:=z.2;rw[NK hk] at q;refine bd q λu e3 q=>bd q λh4 e4 q=>⟨_,.bool b9,b9,hh,SE hk,o7,rfl,λw=>⟨_,_,_,z.1▸F e3,?_,h4,rfl,by rw[No];exact q⟩,λz=>nomatch z⟩
  rw[yG];exact MO e4
 .have q:=z.2;rw[eE] at q;exact z.1.trans (cI (qx T) (cL q))
mutual
theorem oA(M:K.aV)(hC:Cn con)(hK:K.con=con)(hc:V0 K T C):∀(t:E) {e Z:nw} {h:H} {p:V × H},rh C t e h=J p->Cv T.length bM e Z->db K t Z (qx T h) (qY T.length p.1) (qx T p.2)
 | .bK,_,_,_,_,q,c=>sm q yk
 | .bool b,_,_,_,_,q,c=>sm q o7
 | .int i,_,_,_,_,q,c=>sm q qI
 | .loc i,_,_,_,_,q,c=>bd q λo e1 q=>bd q λv e2 q=>sm q (r_loc (c.bZ _ _ (e2▸e1)))
 | .glo i u,_,_,_,_,q,c=>CW q λhu q=>sm q (by rw[WV hu];exact GI)
 | .and a b,_,_,_,_,q,c=>bd q λp e1 q=>bd q λt e2 q=>ru (oA M hC hK hc a e1 c) (LE e2) (λz=>oA M hC hK hc b (by rw[z] at q;exact q) c) λz=>(by rw[z] at q;cases q;exact⟨rfl,rfl⟩)
 | .or a b,_,_,_,_,q,c=>bd q λp e1 q=>bd q λt e2 q=>EG (oA M hC hK hc a e1 c) (LE e2) (λz=>oA M hC hK hc b (by rw[z] at q;exact q) c) λz=>(by rw[z] at q;cases q;exact⟨rfl,rfl⟩)
 | .neg a,_,_,_,_,q,c=>bd q λp e1 q=>bd q λi e2 q=>sm q (zl (by have A:=oA M hC hK hc a e1 c;rw[vj e2] at A;exact A))
 | .inv a,_,_,_,_,q,c=>bd q λp e1 q=>bd q λi e2 q=>sm q ⟨λQ w=>(by have A:=oA M hC hK hc a e1 c;rw[vj e2] at A;exact A.go _ (by show Q (.int (dZ i)) _;exact w))⟩
 | .bin o a b,_,_,_,_,q,c=>bd q λp e1 q=>bd q λp2 e2 q=>bd q λz e3 q=>sm q (uF (oA M hC hK hc a e1 c) (oA M hC hK hc b e2 c) (MD e3))
 | .cmp a o b,_,_,_,_,q,c=>bd q λp e1 q=>bd q λp2 e2 q=>bd q λz e3 q=>sm q (pF (oA M hC hK hc a e1 c) (oA M hC hK hc b (p:=p2) e2 c) (Vm e3))
 | .list es,_,_,_,_,q,c=>bd q λp e1 q=>CW q λl q=>sm q (Lq (qp (xG M hC hK hc es e1 c) (by rw[bj];exact cy l)))
 | .tup es,_,_,_,_,q,c=>bd q λp e1 q=>CW q λl q=>sm q (Lq (sZ (xG M hC hK hc es e1 c) (by rw[bj];exact cy l)))
 | .rep es n,_,_,_,_,q,c=>bd q λp e1 q=>bd q λp2 e2 q=>bd q λk e3 q=>CW q λl q=>sm q (Lq (by
   have B:=oA M hC hK hc n e2 c;rw[Ln e3] at B;have z:=Nq (m:=k) (xG M hC hK hc es e1 c) B (by rw[bj];exact cy (bl l)) (cy (br l));rw[<- List.map_replicate,<-List.map_flatten] at z;exact z))
 | .comp elt i it test,_,_,_,_,q,c=>bd q λp e1 q=>bd q λt e2 q=>CW q λtt q=>bd q λh' e3 q=>sm q (by
   rw[D2 tt];exact TD M c (oA M hC hK hc it e1 c) e2 (λw=>oA M hC hK hc elt w (c.set i _)) e3)
 | .call i f es,_,_,_,_,q,c=>bd q λp e1 q=>bi (xG M hC hK hc es e1 c) (hc _ _ _ _ q)
 | .range i es,_,_,_,_,q,c=>bd q λp e1 q=>⟨λQ w=>(xG M hC hK hc es e1 c).go _ (by rw[UU q];exact w)⟩
 | .append a x,_,_,_,_,q,c=>bd q λp e1 q=>CW q λl q=>bd q λp2 e2 q=>bd q λh3 e3 q=>sm q (XT (oA M hC hK hc a e1 c) (Wo l) (oA M hC hK hc x e2 c) (MO e3))
 | .attr a n,_,_,_,_,q,c=>bd q λp e1 q=>bd q λu e2 q=>sm q ⟨λQ w=>(oA M hC hK hc a e1 c).go _ (by rw[Qs e2];exact w)⟩
 | .sub a b,_,_,_,_,q,c=>bd q λp e1 q=>bd q λp2 e2 q=>bd q λu e3 q=>sm q ⟨λQ w=>(oA M hC hK hc a e1 c).go _ ((oA M hC hK hc b e2 c).go _ (by rw[M0 hC hK e3];exact w))⟩
 | .str _,_,_,_,_,q,_=>oJ q
 | .not _,_,_,_,_,q,_=>oJ q
 | .ite _ _ _,_,_,_,_,q,_=>oJ q
 | .bU _ _ _ _ _,_,_,_,_,q,_=>oJ q
 | .len _ _,_,_,_,_,q,_=>oJ q
 | .abs _ _,_,_,_,_,q,_=>oJ q
 | .index _ _,_,_,_,_,q,_=>oJ q
 | .pop _,_,_,_,_,q,_=>oJ q
 | .slice _ _ _,_,_,_,_,q,_=>oJ q
theorem xG(M:K.aV)(hC:Cn con)(hK:K.con=con)(hc:V0 K T C):∀(t:Es) {e Z:nw} {h:H} {p:List V × H},LY C t e h=J p->Cv T.length bM e Z->F7 K t Z (qx T h) (p.1.map (qY T.length)) (qx T p.2)
 | .nil,_,_,_,_,q,c=>sm q f8
 | .cons a es,_,_,_,_,q,c=>bd q λp e1 q=>bd q λp2 e2 q=>sm q (be (oA M hC hK hc a e1 c) (xG M hC hK hc es e2 c))
end
end
section
variable{T:H}{K:pN}{con:Nat->Option O}{C:CT}{bM:nw}{Q:QS}
def aft(K:pN)(r:Ss)(Q:QS)(n:Nat)(o:Option V)(Z:nw)(h:H):Prop:=match o with
 | none=>oI K r Z h Q
 | some v=>Q (.ret (qY n v)) Z h
theorem Ja(z:aft K r Q n o Z h):aft K .nil (sw K r Q) n o Z h:=by
 cases o with
 | none=>exact ld z
 | some v=>exact z
theorem Kf(q:RW op x y=J z):Cf op (qY T.length x) (qY T.length y) h=J (.int z,h):=by
 have e:=MD (T:=T) (h:=h) q;refine bd q λa e1 q=>bd q λb e2 q=>?_;rw[vj e1,vj e2] at e ⊢;exact e
theorem Yb(A:db K a e h x h1)(B:db K b e h1 y h2)(l:xf K x y h2=J u)(D:db K w e h2 v h3)(l2:Cf o u v h3=J (z,h3))(l3:pZ x y z h3=J h4)(R:oI K r e h4 Q):oI K (.cons (.aug (.sub a b) o w) r) e h Q:=by
 revert h3 h4 x y u v o r z;ext K Q a b w e h h1 h2;ext h3 h4 x y u v o r z;exact⟨A.go _ (B.go _ (by rw[l];exact D.go _ (by rw[l2];show PH _ _;rw[l3];exact R.go)))⟩
theorem Uf{r:Ss}{t:af}{v:V}{e Z:nw}{h0 h:H}{q:nw × H}(M:K.aV)(hC:Cn con)(hK:K.con=con)(hc:V0 K T C)(w:YM C t v e h=J q)(c:Cv T.length bM e Z)(A:db K a Z h0 (qY T.length v) (qx T h))(R:∀aL,Cv T.length bM q.1 aL->oI K r aL (qx T q.2) Q):oI K (.cons (.assign t a) r) Z h0 Q:=by
 ext T K con C bM Q a r t v e Z h0 h q;cases t with
 | loc i=>cases w;exact bs A (R _ (c.set i v))
 | attr p n=>exact bd w λx e1 w=>bd w λh4 e2 w=>by cases w;exact RG A (oA M hC hK hc p e1 c) (QQ e2) (R _ c)
 | sub p i=>exact bd w λx e1 w=>bd w λy e2 w=>bd w λh4 e3 w=>by cases w;exact uB A (oA M hC hK hc p e1 c) (oA M hC hK hc i e2 c) (Jr e3) (R _ c)
 | tup is=>exact oJ w
theorem Uz{a:E}{r:Ss}{t:af}{e Z:nw}{h:H}{q:nw × H}(M:K.aV)(hC:Cn con)(hK:K.con=con)(hc:V0 K T C)(w:ZY C op a t e h=J q)(c:Cv T.length bM e Z)(R:∀aL,Cv T.length bM q.1 aL->oI K r aL (qx T q.2) Q):oI K (.cons (.aug t op a) r) Z (qx T h) Q:=by
 ext T K con C bM Q op a r t e Z h q;cases t with
 | loc i=>exact bd w λx g w=>bd w λx e0 w=>bd w λp e1 w=>bd w λz e2 w=>by cases w;exact oN (c.bZ _ _ (e0▸g)) (oA M hC hK hc a e1 c) (Kf e2) (R _ (c.set i (.int z)))
 | sub p i=>
  exact bd w λx e1 w=>bd w λy e2 w=>bd w λu e3 w=>bd w λv e4 w=>bd w λz e5 w=>bd w λh4 e6 w=>by
   cases w;exact Yb (oA M hC hK hc p e1 c) (oA M hC hK hc i e2 c) (M0 hC hK e3) (oA M hC hK hc a e4 c) (Kf e5) (Jr e6) (R _ c)
 | attr p n=>exact oJ w
 | tup is=>exact oJ w
theorem U6(h:YS t=J i):t= .loc i:=by cases t<;>first | exact cI af.loc (cL h) | exact oJ h
theorem Ul{b r:Ss}{i:Nat}{e Z:nw}{h:H}{t:Int × Int × Int}{p:V × H}{q:nw × H}(M:K.aV)(c:Cv T.length bM e Z)(A:db K it Z (qx T h) (qY T.length p.1) (qx T p.2))(e2:YH p.2 p.1=J t)(F:∀{v:V} {e Z:nw} {h:H} {p:St} {Q:QS},xc C b (e.set i (J v)) h=J p->p.1=U->Cv T.length bM e Z->(∀aL,Cv T.length bM p.2.1 aL->Q .next aL (qx T p.2.2))->oI K b (Z.set i (J (qY T.length v))) (qx T h) Q)(w:IG (λv e h=>xc C b (e.set i (J v)) h) (pI t.1 t.2.1 t.2.2) t.1 t.2.2 e p.2=J q)(R:∀aL,Cv T.length bM q.1 aL->oI K r aL (qx T q.2) Q):oI K (.cons (.each (.loc i) it b) r) Z (qx T h) Q:=by
 ext T K C bM Q it b r i e Z h t p q;exact E2 M A (Q6 e2) rfl (pI t.1 t.2.1 t.2.2) (λk Z hh=>∃e h,Cv T.length bM e Z/\hh=qx T h/\IG (λv e h=>xc C b (e.set i (J v)) h) (pI t.1 t.2.1 t.2.2 - k) (t.1+k*t.2.2) t.2.2 e h=J q)
   ⟨e,p.2,c,rfl,by rw[NJ];exact w⟩ (λk hk Z hh z=>z.elim λe z=>z.elim λh z=>⟨_,SE hk,by
    have w:=z.2.2;rw[NK hk] at w;exact bd w λp e1 w=>CW w λn w=>z.2.1▸(F (Q:=o8 (λZ hh=>∃e h,Cv T.length bM e Z/\hh=qx T h/\IG (λv e h=>xc C b (e.set i (J v)) h) (pI t.1 t.2.1 t.2.2 - (k+1)) (t.1+(k+1:Nat)*t.2.2) t.2.2 e h=J q) (sw K r Q)) e1 (eu.mp n) z.1 λaL c'=>⟨p.2.1,p.2.2,c',rfl,by rw[No];exact w⟩).go⟩)
   λZ hh z=>z.elim λe z=>z.elim λh z=>⟨NM,by
    have w:=z.2.2;rw[eE] at w;cases w;exact z.2.1▸R Z z.1⟩
mutual
theorem NG(M:K.aV)(hC:Cn con)(hK:K.con=con)(hc:V0 K T C):∀(t:S) {e Z:nw} {h:H} {p:St} {r:Ss} {Q:QS},WX C t e h=J p->Cv T.length bM e Z->(∀aL,Cv T.length bM p.2.1 aL->aft K r Q T.length p.1 aL (qx T p.2.2))->oI K (.cons t r) Z (qx T h) Q
 | .assign t a,_,_,_,_,_,_,q,c,R=>bd q λp e1 q=>bd q λw e2 q=>Uf M hC hK hc e2 c (oA M hC hK hc a e1 c) (by cases q;exact R)
 | .aug t op a,_,_,_,_,_,_,q,c,R=>bd q λw e2 q=>Uz M hC hK hc e2 c (by cases q;exact R)
 | .expr a,_,_,_,_,_,_,q,c,R=>bd q λp e1 q=>CW q λn q=>by
  have A:=oA M hC hK hc a e1 c;rw[HI n] at A;cases q;exact oO A (R _ c)
 | .ret a,_,_,_,_,_,_,q,c,R=>bd q λp e1 q=>by cases q;exact uy (oA M hC hK hc a e1 c) (R _ c)
 | .ite g a b,_,_,_,_,_,_,q,c,R=>bd q λp e1 q=>bd q λt e2 q=>uJ (oA M hC hK hc g e1 c) (LE e2) (λz=>wX M hC hK hc a (by rw[z] at q;exact q) c λaL c'=>Ja (R aL c')) λz=>wX M hC hK hc b (by rw[z] at q;exact q) c λaL c'=>Ja (R aL c')
 | .each t it b,_,_,_,_,_,_,q,c,R=>bd q λi e0 q=>bd q λp e1 q=>bd q λu e2 q=>bd q λw e3 q=>by
  rw[U6 e0];exact Ul M c (oA M hC hK hc it e1 c) e2 (λw n c R=>wX M hC hK hc b w (c.set i _) λaL c'=>(by rw[n];exact om (R aL c'))) e3 (by cases q;exact R)
 | .loop _ _,_,_,_,_,_,_,q,_,_=>oJ q
 | .brk,_,_,_,_,_,_,q,_,_=>oJ q
 | .fail,_,_,_,_,_,_,q,_,_=>oJ q
theorem wX(M:K.aV)(hC:Cn con)(hK:K.con=con)(hc:V0 K T C):∀(t:Ss) {e Z:nw} {h:H} {p:St} {Q:QS},xc C t e h=J p->Cv T.length bM e Z->(∀aL,Cv T.length bM p.2.1 aL->aft K .nil Q T.length p.1 aL (qx T p.2.2))->oI K t Z (qx T h) Q
 | .nil,_,_,_,_,_,q,c,R=>by cases q;exact R _ c
 | .cons s r,_,_,_,_,_,q,c,R=>bd q λp e1 q=>NG M hC hK hc s e1 c λaL c'=>by
  cases z:p.1 with
  | none=>rw[z] at q;exact wX M hC hK hc r q c' R
  | some v=>rw[z] at q;cases q;have w:=R aL c';rw[z] at w;exact w
end
theorem Nx(M:K.aV)(hC:Cn con)(hK:K.con=con)(hc:V0 K T C):∀(n:Nat) {t:Ss} {e Z:nw} {h:H} {p:nw × H × Ss} {Q:QS},QR C n t e h=J p->Cv T.length bM e Z->(∀aL,Cv T.length bM p.1 aL->oI K p.2.2 aL (qx T p.2.1) Q)->oI K t Z (qx T h) Q
 | 0,t,_,_,_,_,_,q,c,R=>by cases q;exact R _ c
 | n+1,.cons s t,_,_,_,_,_,q,c,R=>bd q λp e1 q=>CW q λz q=>NG M hC hK hc s e1 c λaL c'=>by
  rw[eu.mp z];exact Nx M hC hK hc n q c' R
 | n+1,.nil,_,_,_,_,_,q,c,R=>oJ q
end
section
open MineH.Lake (KF)
section
variable{d:Nat}{T:H}
theorem ZQ(h3:c<3)(h:ii (K0 d) (IJ c) (.ref T.length::vs) (T++[.inst c []]) .none aK):ii (K0 (d+1)) (uh c) vs T (.ref T.length) aK:=
 have ia:=Sh w0.params
 have f:findIn (KF w0.params) (.ref (uh c)) "__init__"=J (J (.ref (IJ c)))/\typeIn (KF w0.params) (.ref (IJ c))=J (.type "function"):=by
  match c,h3 with
  | 0,_=>exact⟨cI kM ia,cI (λp=>p.2.2.2.1) ia⟩
  | 1,_=>exact⟨cI (λp=>p.2.1) ia,cI (λp=>p.2.2.2.2.1) ia⟩
  | 2,_=>exact⟨cI (λp=>p.2.2.1) ia,cI (λp=>p.2.2.2.2.2) ia⟩
 ⟨λQ q=>by
  by_cases af:T0
  .rw[Dy af] at h ⊢;exact Qj af (R5 _ c) f.1 f.2 (h.go _ ⟨rfl,q⟩)
  .rw[H8 af];trivial⟩
theorem LJ{β:Type}:∀{l:List (Nat × β)} {a:Nat} {b:β},l.lookup a=J b->(a,b)∈l
 | [],_,_,h=>oJ h
 | (k,v)::l,a,b,h=>by
  rw[d9] at h;cases e:a == k with
  | true=>rw[e] at h;rw[cK e,<-cL h];exact .head _
  | false=>rw[e] at h;exact .tail _ (LJ h)
theorem Xp:∀x∈fnT,∀{vs:List V} {Q:V->H->Prop},vs.length=x.2.2.na->(o6 T.length T->uO (K0 d) x.2.2.body (oU x.2.1 vs) T (qP T.length Q))->(K0 (d+1)).call x.1 vs T Q:=
 ey.mpr ⟨Ct,ey.mpr ⟨zh,ey.mpr ⟨Jm,ey.mpr ⟨Cp,ey.mpr ⟨Lj,ey.mpr ⟨JR,ey.mpr ⟨FG,
  ey.mpr ⟨FW,ey.mpr ⟨Ci,ey.mpr ⟨CE,ey.mpr ⟨DF,nofun⟩⟩⟩⟩⟩⟩⟩⟩⟩⟩⟩
theorem Tu:∀x∈U1,x.1=uh x.2.1/\x.2.2=IJ x.2.1/\x.2.1<3:=by decide
theorem aaH{nn:Nat}:Cv T.length (oU nn (vs.map (qY T.length))) (oU nn vs) (oU nn (vs.map (qY T.length))):=by
 refine⟨by unfold oU;simp only[a6,bj,eg],λi v g=>?_,λi g=>rfl⟩;obtain⟨l,g2⟩:=JW g;unfold oU;rw[ae (by rw[bj,bj];exact l),cY,cY,g2];rfl
theorem S9:∀n:Nat,V0 (K0 (d+n)) T (CI n)
 | 0=>λf vs h p q=>oJ q
 | n+1=>λf vs h p q=>by
  have q:(match U1.lookup f with
   | some c=>(CI n c.2 (.ref h.length::vs) (h++[.inst c.1 []])).bind λp=>gd (Tl p.1) (J (.ref h.length,p.2))
   | none=>(fnT.lookup f).bind λq=>gd (q.2.na == vs.length) ((xc (CI n) q.2.body (oU q.1 vs) h).bind λp=>J (p.1.getD .none,p.2.2)))=J p:=q
  cases e1:U1.lookup f with
  | some c=>
   rw[e1] at q;have k:=Tu (f,c) (LJ e1);rw[show f=uh c.1 from k.1];refine bd q λu e2 q=>CW q λn0 q=>sm (P:=λp=>ii _ (uh c.1) _ (qx T h) (qY T.length p.1) (qx T p.2)) q ?_;have z:=S9 n _ _ _ _ e2;rw[<- He,HI n0,show c.2=IJ c.1 from k.2.1] at z;have e3:qY T.length (.ref h.length)= .ref (qx T h).length:=by rw[yG];rfl
   rw[dA,e3] at z;rw[e3];exact ZQ k.2.2 z
  | none=>
   rw[e1] at q;refine bd q λg e2 q=>CW q λl q=>bd q λu e3 q=>sm (P:=λp=>ii _ f _ (qx T h) (qY T.length p.1) (qx T p.2)) q ?_;refine mk (λQ=>Xp (f,g) (LJ e2) ((bj _).trans (cK l).symm)) λQ q hc=>wX (lw _) C0 rfl (S9 n) g.2.body e3 aaH λaL c'=>?_;revert q;cases u.1 with
   | none=>exact λq=>om (u5 (e:=aL) q)
   | some v=>exact λq=>qT (e:=aL) q
end
def WY(F R:Nat):nw:=[J (nv F),J (nv R),U,U,U,U,U,U,U,U,U,U,U,U,U,U,U,U,U]
def Ft(F R:Nat):Option (nw × H × Ss):=QR (CI 3) 6 qy.body (WY F R) []
end
def UE:V->V->Bool
 | .none,y=>y.ctorIdx == 0
 | .bool a,y=>vv (match y with | .bool b=>J b | _=>U) cj (a == ·)
 | .int a,y=>vv y.i? cj (a == ·)
 | .ref a,y=>vv y.r? cj (a == ·)
 | .str _,_=>cj
 | .con _,_=>cj
theorem uk(h:vv o cj k=b9):∃x,o=J x/\k x=b9:=by
 cases o with
 | none=>exact(dd h).elim
 | some x=>exact⟨x,rfl,h⟩
def TY:List V->List V->Bool
 | [],ys=>ys.isEmpty
 | x::xs,ys=>oZ ys λy ys=>UE x y&&TY xs ys
def WK:List (Nat × V)->List (Nat × V)->Bool
 | [],ys=>ys.isEmpty
 | x::xs,ys=>oZ ys λy ys=>x.1 == y.1&&UE x.2 y.2&&WK xs ys
def O.t? :O->Option (List V)
 | .tup xs=>J xs
 | .list _=>U
 | .inst _ _=>U
 | .aT _ _ _=>U
theorem W3{o:O}(h:o.t? =J xs):o= .tup xs:=by cases o<;>first | exact oJ h | exact cI O.tup (cL h)
def XZ:O->O->Bool
 | .list xs,o=>vv o.l? cj (TY xs)
 | .tup xs,o=>vv o.t? cj (TY xs)
 | .inst c fs,o=>vv o.f? cj λp=>c == p.1&&WK fs p.2
 | .aT _ _ _,_=>cj
def G2(h:H)(p:Nat)(o:O):Bool:=vv h[p]? cj λo'=>XZ o' o
theorem Im(h:UE x y=b9):x=y:=by
 cases x with
 | none=>exact(HI h).symm
 | bool a=>cases y<;>first | exact(dd h).elim | exact cI V.bool (cK h)
 | int a=>exact(uk h).elim λi h=>(cI V.int (cK h.2)).trans (vj h.1).symm
 | ref a=>exact(uk h).elim λi h=>(cI V.ref (cK h.2)).trans (Bz h.1).symm
 | str _=>exact(dd h).elim
 | con _=>exact(dd h).elim
theorem G1:∀{x y:List V},TY x y=b9->x=y
 | [],y,h=>oR (C:=λy=>[]=y) h rfl
 | x::xs,y,h=>oh (C:=λy=>x::xs=y) h λy ys h=>by rw[Im (bl h),G1 (br h)]
theorem Mv:∀{x y:List (Nat × V)},WK x y=b9->x=y
 | [],y,h=>oR (C:=λy=>[]=y) h rfl
 | x::xs,y,h=>oh (C:=λy=>x::xs=y) h λy ys h=>by rw[Mv (br h),show x=y from iJ (cK (bl (bl h))) (Im (br (bl h)))]
theorem Nj(h:XZ x y=b9):x=y:=by
 cases x with
 | list xs=>exact(uk h).elim λys h=>(cI O.list (G1 h.2)).trans (KX h.1).symm
 | tup xs=>exact(uk h).elim λys h=>(cI O.tup (G1 h.2)).trans (W3 h.1).symm
 | inst c fs=>exact(uk h).elim λp h=>by rw[LZ h.1,cK (bl h.2),Mv (br h.2)]
 | aT _ _ _=>exact(dd h).elim
theorem WO(q:G2 h p o=b9):h[p]? =J o:=(uk q).elim λo' z=>z.1.trans (cI J (Nj z.2))
def rM(l:List Nat):Nat:=l.foldl (λa t=>a ||| 1 <<< t) 0
def mo(F R s:Nat)(ws:List (Int × Int)):List Nat:=ws.flatMap λw=>(wN F R s w).take 1
def dL(F R:Nat)(c:Bool):pf where
 files:=F
 ranks:=R
 cast:=c
 fm:=(cn F).map λf=>rM ((cn (F*R)).filter λs=>s%F == f)
 rm:=(cn R).map λr=>rM ((cn (F*R)).filter λs=>s/F == r)
 rays:=(cn 8).map λd=>(cn (F*R)).map λs=>rM (wN F R s (oy.getD d (0,0)))
 king:=(cn (F*R)).map λs=>rM (mo F R s oy)
 knight:=(cn (F*R)).map λs=>rM (mo F R s t6)
 pawn:=[(cn (F*R)).map λs=>rM (mo F R s (rO 0)),(cn (F*R)).map λs=>rM (mo F R s (rO 1))]
 castles:=if c then[J [3,5,6,4],J [3,1,0,2],J [17,19,20,18],J [17,15,14,16]] else[U,U,U,U]
 lost:=if c then[2,0,0,3,0,0,1,0,0,0,0,0,0,0,8,0,0,12,0,0,4] else cZ 12 0
def Gx(n:Nat)(c:Bool):List V:=if c then[.ref (n+75),.ref (n+76),.ref (n+77),.ref (n+78)] else[.none,.none,.none,.none]
def ghS(n:Nat)(c:Bool):GH:=⟨n+37,n+38,n+39,n+49,n+41,n+44,n+45,n+73,[51,54,57,59,61,64,66,68].map (n+·),[42,43].map (n+·),Gx n c⟩
def ts(c:Bool):Nat:=if c then 79 else 75
def WD(n:Nat):Ps:=⟨cZ n 0,cZ 7 0,[0,0],0,0,0,1,0,[]⟩
def xS(n F R:Nat)(c:Bool):uG:=⟨n+36,ghS n c,dL F R c,n+ts c,n+35⟩
def aaY(sz i:Nat):List Nat:=(cn sz).map λs=>1 <<< (i*sz+s)
def Tt(F R:Nat)(c:Bool)(h:H):Bool:=
 G2 h 36 (.inst 0 [(0,nv F),(1,nv R),(2,nv (F*R)),(3,nv ((1 <<< (F*R)) - 1)),(4,.bool cj),(5,.bool c),(6,.ref 37),(7,.ref 38),(8,.ref 39),(9,.ref 49),(10,.ref 41),(11,.ref 44),(12,.ref 45),(13,.ref 73)])&&
 G2 h 37 (.list ((dL F R c).fm.map nv))&&G2 h 38 (.list ((dL F R c).rm.map nv))&&G2 h 39 (.list ([51,54,57,59,61,64,66,68].map .ref))&&
 ((cn 8).all λd=>G2 h ([51,54,57,59,61,64,66,68].getD d 0) (.list (((dL F R c).rays.getD d []).map nv)))&&
 G2 h 49 (.list ((dL F R c).king.map nv))&&G2 h 41 (.list ((dL F R c).knight.map nv))&&G2 h 44 (.list ([42,43].map .ref))&&
 G2 h 42 (.list (((dL F R c).pawn.getD 0 []).map nv))&&G2 h 43 (.list (((dL F R c).pawn.getD 1 []).map nv))&&G2 h 45 (.list (Gx 0 c))&&G2 h 73 (.list ((dL F R c).lost.map nv))&&
 (!c||(cn 4).all λi=>G2 h (75+i) (.tup (((((dL F R c).castles.getD i U)).getD []).map nv)))&&
 G2 h 35 (.inst 2 [(25,.ref 0),(21,.ref 32),(20,.ref 34),(19,nv (1 <<< (15*(F*R)+16)))])&&G2 h 0 (.list (((cn 15).map λi=>3+2*i).map .ref))&&
 ((cn 15).all λi=>G2 h (3+2*i) (.list ((aaY (F*R) i).map nv)))&&G2 h 34 (.list (((cn 16).map λr=>1 <<< (15*(F*R)+r)).map nv))
def eqH:H->H->Bool
 | [],ys=>ys.isEmpty
 | x::xs,ys=>oZ ys λy ys=>XZ x y&&eqH xs ys
theorem Qk:∀{x y:H},eqH x y=b9->x=y
 | [],y,h=>oR (C:=λy=>[]=y) h rfl
 | x::xs,y,h=>oh (C:=λy=>x::xs=y) h λy ys h=>by rw[Nj (bl h),Qk (br h)]
def Yh(p g z:Nat)(P:Ps):O:=.inst 1 [(14,.ref g),(15,.ref z),(16,.ref (p+1)),(17,.ref (p+2)),(18,.ref (p+3)),(19,nv P.au),(20,nv P.az),(21,.int (-1)),(22,nv P.aA),(3,nv P.av),(23,nv P.key),(24,.ref (p+4))]
def N2(o:Option (Option V))(v:V):Bool:=vv o cj λu=>vv u cj λu=>UE u v
theorem HQ(h:N2 o v=b9):o=J (J v):=(uk h).elim λu h=>(uk h.2).elim λx g=>h.1.trans (cI J (g.1.trans (cI J (Im g.2))))
def isN(o:Option (Option V)):Bool:=vv o cj Option.isNone
theorem W2(h:isN o=b9):o=J U:=(uk h).elim λu h=>h.1.trans (cI J (eu.mp h.2))
def Ta(F R:Nat)(c:Bool)(o:Option (nw × H × Ss)):Bool:=match o with
 | some (e,h,_)=>Tt F R c h&&(eqH (h.drop (ts c)) [Yh (ts c) 36 35 (WD (F*R)),.list ((cZ (F*R) 0).map nv),.list ((cZ 7 0).map nv),.list ([0,0].map nv),.list []]&&
  (N2 e[6]? (nv (F*R))&&(N2 e[7]? (nv (15*(F*R)))&&(N2 e[12]? (.ref (ts c))&&(cu (h.length=ts c+5)&&(cu (e.length=19)&&(N2 e[0]? (nv F)&&(N2 e[1]? (nv R)&&[2,3,4,5].all λi=>isN e[i]?))))))))
 | none=>cj
def Qo(F R:Nat)(c:Bool):Bool:=Ta F R c (Ft F R)
theorem Zf:Qo 7 3 b9=b9:=by decide +kernel
theorem YZ:Qo 3 4 cj=b9:=by decide +kernel
def rH(f:Nat->Bool):Nat->Nat
 | 0=>0
 | n+1=>rH f n ||| if f n=b9 then 2 ^ n else 0
theorem pX(f:Nat->Bool)(i n:Nat):(rH f n).testBit i=(cu (i<n)&&f i):=by
 ext f i
 induction n with
 | zero=>exact(dy i).trans (by rw[cD (fE i)];rfl)
 | succ n ih=>
  have e1:n≠i->cu (i<n+1)=cu (i<n):=λe=>decide_eq_decide.mpr ⟨λh=>iz (dk h) (dT e),g7⟩;show(rH f n ||| if f n=b9 then 2 ^ n else 0).testBit i=_;rw[dz,ih];by_cases h:f n=b9
  .rw[cG h,dq];by_cases e:n=i
   .subst e;simp [h]
   .simp [e,e1 e]
  .rw[cH h,dy,iV];by_cases e:n=i
   .subst e;simp [h]
   .rw[e1 e]
theorem vw(f:Nat->Bool)(n:Nat):rH f n<2 ^ n:=by
 refine ie _ λi h=>?_;rw[pX];simp;lia
def sN(n:Nat)(c:List Nat):List Nat:=(cn 7).map λk=>rH (λs=>cu (c.getD s 0≠0)&&cu (c.getD s 0%8=k)) n
def sO(n:Nat)(c:List Nat):List Nat:=(cn 2).map λd=>rH (λs=>cu (c.getD s 0≠0)&&cu (c.getD s 0/8=d)) n
def Ac(n:Nat)(c:List Nat):Nat:=rH (λi=>cu (i/n≠0)&&cu (c.getD (i%n) 0=i/n)) (15*n)
def oj(n:Nat)(c:List Nat)(au az aA av kx:Nat)(ay:List V):Ps:=⟨c,sN n c,sO n c,au,az,aA,av,Ac n c ^^^ kx,ay⟩
section
variable{n s t u pc i k:Nat}{c:List Nat}{G:pf}
theorem pH{l l':List Nat}(hl:l.length=l'.length)(hj:j<l.length->l'.getD j 0=x)(h:∀i,i≠j->l.getD i 0=l'.getD i 0):l.set j x=l':=by
 refine List.ext_getElem? λi=>?_;rw[iH];by_cases hi:i<l.length
 .have hi':i<l'.length:=hl▸hi;by_cases e:j=i
  .subst e;rw[cG rfl,cG hi,<-hj hi,ba,a7 hi'];rfl
  .rw[cH e];have:=h i (dT e);rw[ba,ba,a7 hi,a7 hi'] at this;rw[a7 hi,a7 hi'];exact cI J this
 .have hi':¬i<l'.length:=hl▸hi;rw[eI (d7 hi),eI (d7 hi')];by_cases e:j=i
  .subst e;rw[cG rfl,cH hi]
  .rw[cH e]
theorem o9(h:i<m):((cn m).map f).getD i 0=f i:=by
 rw[ba,cY,fS h];rfl
theorem vZ(h:¬i<m):((cn m).map f).getD i 0=0:=by
 rw[ba,eI (by rw[bj,dv];lia)];rfl
theorem LD{au az aA av kx:Nat}(h:k<7):(oj n c au az aA av kx ay).kd k=rH (λs=>cu (c.getD s 0≠0)&&cu (c.getD s 0%8=k)) n:=o9 h
theorem EC{au az aA av kx:Nat}(h:k<2):(oj n c au az aA av kx ay).sd k=rH (λs=>cu (c.getD s 0≠0)&&cu (c.getD s 0/8=k)) n:=o9 h
theorem IQ(n:Nat):n &&& 7=n%8:=gH n 3
theorem Q1(n:Nat):n >>> 3=n/8:=dC n 3
theorem qf(n:Nat):1 <<< n=2 ^ n:=by rw[h8,kJ]
theorem N9(hs:s<n)(h:¬p*n+s=i):¬(i/n=p/\i%n=s):=λ⟨h1,h2⟩=>h (by
 have:=gf i n;rw[h1,h2,fT] at this;exact this)
theorem W6(hs:s<n):(p*n+s)/n=p:=by
 rw[fT,Nat.mul_add_div (jy hs),hO hs];rfl
theorem Xg(hs:s<n):(p*n+s)%n=s:=by
 rw[fT,mF,hZ hs]
theorem WF(hs:s<n)(hp:p<15):p*n+s<15*n:=by
 have:p*n+n<=15*n:=by rw[<- jh];exact dQ _ hp
 lia
theorem Ab(hs:s<n)(hp:pc<15)(h0:pc≠0)(hne:∀i,i≠s->c'.getD i 0=c.getD i 0)(h1:c.getD s 0=0/\c'.getD s 0=pc\/c.getD s 0=pc/\c'.getD s 0=0):Ac n c ^^^ 1 <<< (pc*n+s)=Ac n c':=by
 ext n s pc c c';refine d0 λi=>?_;ext i;unfold Ac;rw[fk,pX,pX,qf,dq];by_cases e:pc*n+s=i
 .subst e;rw[W6 hs,Xg hs,cC (WF hs hp),cC h0];rcases h1 with⟨a,b⟩ | ⟨a,b⟩
  .rw[a,b,cD (p:=0=pc) (λh=>h0 h.symm)];simp
  .rw[a,b,cD (p:=0=pc) (λh=>h0 h.symm)];simp
 .rw[cD e,jv];congr 1;by_cases m:i%n=s
  .have hd:i/n≠pc:=λh=>N9 hs e ⟨h,m⟩;rw[m];by_cases z:i/n=0
   .rw[z];rfl
   .congr 1;rcases h1 with⟨a,b⟩ | ⟨a,b⟩
    .rw[a,b,cD (p:=0=i/n) (λh=>z h.symm),cD (p:=pc=i/n) (λh=>hd h.symm)]
    .rw[a,b,cD (p:=0=i/n) (λh=>z h.symm),cD (p:=pc=i/n) (λh=>hd h.symm)]
  .rw[hne _ m]
theorem GA(hs:s<n)(hne:∀i,i≠s->f' i=f i)(h1:f s= !f' s):rH f n ^^^ 1 <<< s=rH f' n:=by
 refine d0 λi=>?_;rw[fk,pX,pX,qf,dq];by_cases e:s=i
 .subst e;rw[cC hs,h1,cC (p:=s=s) rfl];cases f' s<;>rfl
 .rw[cD e,jv,hne i (dT e)]
theorem Gl(h:∀i,i<n->f' i=f i):rH f n=rH f' n:=by
 refine d0 λi=>?_;rw[pX,pX];by_cases e:i<n
 .rw[h i e]
 .rw[cD e];rfl
theorem MX(hs:s<n)(h:f s=cj):rH f n ||| 1 <<< s=rH f n ^^^ 1 <<< s:=by
 refine d0 λi=>?_;rw[fk,dz,pX,qf,dq];by_cases e:s=i
 .subst e;rw[h];simp
 .rw[cD e];simp
theorem Gw{F F':Nat->Nat}{x:Nat}(hj:j<m)(h1:x=F' j)(h2:∀i,i<m->i≠j->F i=F' i):((cn m).map F).set j x=(cn m).map F':=by
 refine pH (by simp) (λw=>by rw[o9 hj,h1]) λi hi=>?_;by_cases l:i<m
 .rw[o9 l,o9 l];exact h2 i l hi
 .rw[vZ l,vZ l]
end
section
variable{n s t u pc:Nat}{c:List Nat}{G:pf}{au az aA av kx:Nat}{ay:List V}
theorem rT:vb pc->pc/8<2/\pc%8<7:=λh=>by
 have a:=h.k;have b:=h.s;rw[IQ] at a;rw[Q1] at b;exact⟨b,a⟩
theorem uT(hs:s<n)(hl:c.length=n)(hk:pc%8<7)(h0:pc≠0)(hne:∀i,i≠s->c'.getD i 0=c.getD i 0)(h1:c.getD s 0=0/\c'.getD s 0=pc\/c.getD s 0=pc/\c'.getD s 0=0):
  (sN n c).set (pc%8) ((sN n c).getD (pc%8) 0 ^^^ 1 <<< s)=sN n c':=by
 ext n s pc c c';unfold sN;refine Gw hk ?_ λi hi hne2=>Gl λj hj=>?_
 .rw[o9 hk];refine GA hs (λi hi=>by rw[hne i hi]) ?_;rcases h1 with⟨a,b⟩ | ⟨a,b⟩<;>rw[a,b]<;>simp [h0]
 .by_cases e:j=s
  .subst e;rcases h1 with⟨a,b⟩ | ⟨a,b⟩<;>rw[a,b]<;>simp [h0,dT hne2]
  .rw[hne j e]
theorem uX(hs:s<n)(hk:pc/8<2)(h0:pc≠0)(hne:∀i,i≠s->c'.getD i 0=c.getD i 0)(h1:c.getD s 0=0/\c'.getD s 0=pc\/c.getD s 0=pc/\c'.getD s 0=0):
  (sO n c).set (pc/8) ((sO n c).getD (pc/8) 0 ^^^ 1 <<< s)=sO n c':=by
 ext n s pc c c';unfold sO;refine Gw hk ?_ λi hi hne2=>Gl λj hj=>?_
 .rw[o9 hk];refine GA hs (λi hi=>by rw[hne i hi]) ?_;rcases h1 with⟨a,b⟩ | ⟨a,b⟩<;>rw[a,b]<;>simp [h0]
 .by_cases e:j=s
  .subst e;rcases h1 with⟨a,b⟩ | ⟨a,b⟩<;>rw[a,b]<;>simp [h0,dT hne2]
  .rw[hne j e]
theorem im{l:List Nat}(i:Nat)(h:i≠s):(l.set s x).getD i 0=l.getD i 0:=by
 rw[zi,cH (λz=>h z.1.symm)]
theorem oB{l:List Nat}(h:s<l.length):(l.set s x).getD s 0=x:=by rw[zi,cG ⟨rfl,h⟩]
theorem Dg(hG:G.size=n)(hs:s<n)(hl:c.length=n)(hp:vb pc)(h0:pc≠0)(hc:c.getD s 0=pc):(oj n c au az aA av kx ay).takeP G pc s=oj n (c.set s 0) au az aA av kx ay:=by
 have h1:c.getD s 0=0/\(c.set s 0).getD s 0=pc\/c.getD s 0=pc/\(c.set s 0).getD s 0=0:=.inr ⟨hc,oB (by rw[hl];exact hs)⟩;have kf:=Ab hs hp.l h0 (im (l:=c) (x:=0)) h1;unfold Ps.takeP oj;dsimp only[Ps.kd,Ps.sd];rw[IQ,Q1,uT hs hl (rT hp).2 h0 im h1,uX hs (rT hp).1 h0 im h1,hG,eh,jl kx,<-eh,kf]
theorem Dc(hG:G.size=n)(hs:s<n)(hl:c.length=n)(hp:vb pc)(h0:pc≠0)(hc:c.getD s 0=0):(oj n c au az aA av kx ay).putP G pc s=oj n (c.set s pc) au az aA av kx ay:=by
 have h1:c.getD s 0=0/\(c.set s pc).getD s 0=pc\/c.getD s 0=pc/\(c.set s pc).getD s 0=0:=.inl ⟨hc,oB (by rw[hl];exact hs)⟩;have kf:=Ab hs hp.l h0 (im (l:=c) (x:=pc)) h1;unfold Ps.putP oj;dsimp only[Ps.kd,Ps.sd];have e1:(sN n c).getD (pc%8) 0 ||| 1 <<< s=(sN n c).getD (pc%8) 0 ^^^ 1 <<< s:=by
  unfold sN;rw[o9 (rT hp).2];exact MX hs (by rw[hc];rfl)
 have e2:(sO n c).getD (pc/8) 0 ||| 1 <<< s=(sO n c).getD (pc/8) 0 ^^^ 1 <<< s:=by
  unfold sO;rw[o9 (rT hp).1];exact MX hs (by rw[hc];rfl)
 rw[IQ,Q1,e1,e2,uT hs hl (rT hp).2 h0 im h1,uX hs (rT hp).1 h0 im h1,hG,eh,jl kx,<-eh,kf]
theorem Yg(h:u≠v):1 <<< u ||| 1 <<< v=1 <<< u ^^^ 1 <<< v:=by
 refine d0 λi=>?_;rw[dz,fk,qf,qf,dq,dq];by_cases e:u=i
 .subst e;simp [dT h]
 .simp [e]
theorem IZ{l:List Nat}(hi:i<l.length)(y:Nat):(l.set i x).getD i 0 ^^^ y=x ^^^ y:=by rw[oB hi]
theorem Gf(hG:G.size=n)(hu:u<n)(hv:t<n)(hne:u≠t)(hl:c.length=n)(hp:vb pc)(h0:pc≠0)(hc:c.getD u 0=pc)(hc2:c.getD t 0=0):
  (oj n c au az aA av kx ay).b6 G pc u t=oj n ((c.set u 0).set t pc) au az aA av kx ay:=by
 ext n t u pc c G au az aA av kx ay;have h1:c.getD u 0=0/\(c.set u 0).getD u 0=pc\/c.getD u 0=pc/\(c.set u 0).getD u 0=0:=.inr ⟨hc,oB (by rw[hl];exact hu)⟩;have hl2:(c.set u 0).length=n:=by rw[cR];exact hl
 have hc3:(c.set u 0).getD t 0=0:=by rw[im t (dT hne)];exact hc2
 have h2:(c.set u 0).getD t 0=0/\((c.set u 0).set t pc).getD t 0=pc\/(c.set u 0).getD t 0=pc/\((c.set u 0).set t pc).getD t 0=0:=.inl ⟨hc3,oB (by rw[hl2];exact hv)⟩;have k1:=Ab hu hp.l h0 (im (l:=c) (x:=0)) h1;have k2:=Ab hv hp.l h0 (im (l:=c.set u 0) (x:=pc)) h2;have a1:=uT hu hl (rT hp).2 h0 im h1;have a2:=uT hv hl2 (rT hp).2 h0 im h2;have b1:=uX hu (rT hp).1 h0 im h1;have b2:=uX hv (rT hp).1 h0 im h2;have lk:pc%8<(sN n c).length:=by unfold sN;rw[bj,dv];exact(rT hp).2
 have ls:pc/8<(sO n c).length:=by unfold sO;rw[bj,dv];exact(rT hp).1
 rw[<- a1,IZ lk,gU,eh] at a2;rw[<- b1,IZ ls,gU,eh] at b2;unfold Ps.b6 oj;dsimp only[Ps.kd,Ps.sd];rw[IQ,Q1,Yg hne,a2,b2,hG,<-k2,<-k1];congr 1;rw[eh,jl kx,<-eh,<-eh]
end
structure VL (F R:Nat) (c:Bool):Prop where
 bd:Bd F R
 chk:Qo F R c=b9
 ok:BQ (dL F R c)
 cc:∀i:Nat,(dL F R c).castles[i]? =J U->(Gx 0 c)[i]? =J .none
theorem aaE:BQ (dL 3 4 cj):=⟨by decide,by decide +kernel,by decide +kernel,by decide,by decide,by decide,by decide,by decide +kernel,by decide +kernel,by decide +kernel,by decide +kernel,by decide,by decide +kernel,by decide,λt h=>by simp [dL] at h,by decide⟩
theorem aaD:BQ (dL 7 3 b9):=⟨by decide,by decide +kernel,by decide +kernel,by decide,by decide,by decide,by decide,by decide +kernel,by decide +kernel,by decide +kernel,by decide +kernel,by decide,by decide +kernel,by decide,λt h=>by
 simp only[dL,if_true,dS,jA,fW,or_false] at h;rcases h with rfl | rfl | rfl | rfl<;>exact⟨by decide,by decide⟩,by decide⟩
theorem aae:VL 3 4 cj:=⟨Zs,YZ,aaE,λi h=>by
 match i with
 | 0 | 1 | 2 | 3=>rfl
 | i+4=>cases h⟩
theorem ZV:VL 7 3 b9:=⟨YG,Zf,aaD,λi h=>by
 match i with
 | 0 | 1 | 2 | 3=>cases h
 | i+4=>cases h⟩
def hR:Option (nw × H × Ss)->H
 | some (_,h,_)=>h
 | none=>[]
def hP(F R:Nat):H:=hR (Ft F R)
def aP(T:H)(F R:Nat)(c:Bool):H:=qx T ((hP F R).take (ts c))
theorem Ga:∀(n:Nat) (t:Ss) {e:nw} {h:H} {p:nw × H × Ss},QR C n t e h=J p->p.2.2=rI n t
 | 0,t,_,_,_,q=>by cases q;cases t<;>rfl
 | n+1,.cons s t,_,_,_,q=>bd q λp w q=>CW q λw q=>Ga n t q
 | n+1,.nil,_,_,_,q=>oJ q
section
variable{T h:H}{F R p m:Nat}{c:Bool}{o:O}
theorem qB(n:Nat)(l:List Nat):J4 n (.list (l.map nv))= .list (l.map nv):=by
 show O.list ((l.map nv).map (qY n))=_;rw[h9];rfl
theorem RN(n:Nat)(l:List Nat):J4 n (.tup (l.map nv))= .tup (l.map nv):=by
 show O.tup ((l.map nv).map (qY n))=_;rw[h9];rfl
theorem EK(n:Nat)(l:List Nat):J4 n (.list (l.map .ref))= .list ((l.map (n+·)).map .ref):=by
 show O.list ((l.map V.ref).map (qY n))=_;rw[h9,h9];rfl
theorem xw(hp:p<m)(q:G2 h p o=b9):(qx T (h.take m))[T.length+p]? =J (J4 T.length o):=by
 refine wd ?_;rw[eS hp];exact WO q
theorem Kc(n:Nat):(Gx 0 c).map (qY n)=Gx n c:=by
 cases c<;>rfl
theorem YK(b:VL F R c)(q:Tt F R c h=b9)(hl:h.length=ts c+5):PA (qx T (h.take (ts c))) (xS T.length F R c):=by
 ext T h F R c;unfold Tt at q;simp only[ax] at q;obtain⟨⟨⟨⟨⟨⟨⟨⟨⟨⟨⟨⟨⟨⟨⟨⟨q36,q37⟩,q38⟩,q39⟩,qr⟩,q49⟩,q41⟩,q44⟩,q42⟩,q43⟩,q45⟩,q73⟩,qc⟩,q35⟩,q0⟩,qz⟩,q34⟩:=q;have pn:75<=ts c:=by cases c<;>decide
 have al:(qx T (h.take (ts c))).length=T.length+ts c:=by rw[yG,dE];lia
 have ok:=b.ok;refine⟨?_,by rw[al];exact da _,⟨⟨T.length+0,T.length+32,T.length+34,(((cn 15).map λi=>3+2*i).map (T.length+·))⟩,?_⟩⟩
 .refine⟨xw (by lia) q36,(xw (by lia) q37).trans (cI J (qB _ _)),(xw (by lia) q38).trans (cI J (qB _ _)),(xw (by lia) q39).trans (cI J (EK _ _)),λd p l hp hg=>?_,(xw (by lia) q49).trans (cI J (qB _ _)),(xw (by lia) q41).trans (cI J (qB _ _)),(xw (by lia) q44).trans (cI J (EK _ _)),λd p l hp hg=>?_,(xw (by lia) q45).trans ?_,λi hi=>?_,λi t hi=>?_,(xw (by lia) q73).trans (cI J (qB _ _)),ok,rfl,rfl,?_⟩
  .have hd:d<8:=f0 hp;have z:=cN.mp qr d (cO.mpr hd);have hg':(dL F R c).rays[d]? =J l:=hg;rw[show(dL F R c).rays.getD d []=l by rw[ba,hg'];rfl] at z;have hp':(([51,54,57,59,61,64,66,68]:List Nat).map (T.length+·))[d]? =J p:=hp;rw[cY] at hp';obtain⟨k,h1,rfl⟩:=dj.mp hp';rw[show([51,54,57,59,61,64,66,68]:List Nat).getD d 0=k by rw[ba,h1];rfl] at z;have hk:k<75:=(by decide:∀x∈([51,54,57,59,61,64,66,68]:List Nat),x<75) k (dD h1);exact(xw (by lia) z).trans (cI J (qB _ _))
  .match d,hp,hg with
   | 0,hp,hg=>
    cases hp;have hg':(dL F R c).pawn[0]? =J l:=hg;have e:(dL F R c).pawn.getD 0 []=l:=by rw[ba,hg'];rfl
    rw[e] at q42;exact(xw (by lia) q42).trans (cI J (qB _ _))
   | 1,hp,hg=>
    cases hp;have hg':(dL F R c).pawn[1]? =J l:=hg;have e:(dL F R c).pawn.getD 1 []=l:=by rw[ba,hg'];rfl
    rw[e] at q43;exact(xw (by lia) q43).trans (cI J (qB _ _))
   | d+2,hp,hg=>cases hg
  .show J (O.list _)=J (O.list _);rw[Kc];rfl
  .have:=b.cc i hi;show(Gx T.length c)[i]? =J .none;rw[<- Kc,cY,this];rfl
  .cases c with
   | false=>
    have:J t∈(dL F R cj).castles:=dD hi;simp [dL] at this
   | true=>
    rw[jG,fy] at qc;have hi4:i<4:=by have:=f0 hi;exact this
    have z:=cN.mp qc i (cO.mpr hi4);have hg':(dL F R b9).castles[i]? =J (J t):=hi;rw[show((dL F R b9).castles.getD i U).getD []=t by rw[ba,hg'];rfl] at z;refine⟨?_,T.length+(75+i),?_,?_,(xw (by show 75+i<79;lia) z).trans (cI J (RN _ _))⟩
    .match i,hi with
     | 0,hi | 1,hi | 2,hi | 3,hi=>cases hi;rfl
     | i+4,hi=>cases hi
    .match i,hi4 with
     | 0,_ | 1,_ | 2,_ | 3,_=>rfl
    .show _<T.length+79;lia
  .refine⟨?_,?_,?_,?_,?_,?_,?_,?_,?_,λp hp=>?_,λp hp=>?_⟩
   any_goals (show T.length+_<T.length+ts c;lia)
   .obtain⟨k,h1,rfl⟩:=ef.mp (show p∈([51,54,57,59,61,64,66,68]:List Nat).map (T.length+·) from hp);have hk:k<75:=(by decide:∀x∈([51,54,57,59,61,64,66,68]:List Nat),x<75) k h1;show _<T.length+ts c;lia
   .obtain⟨k,h1,rfl⟩:=ef.mp (show p∈([42,43]:List Nat).map (T.length+·) from hp);have hk:k<75:=(by decide:∀x∈([42,43]:List Nat),x<75) k h1;show _<T.length+ts c;lia
 .refine⟨xw (by lia) q35,(xw (by lia) q0).trans (cI J (EK _ _)),by simp,λi p hp=>?_,(xw (by lia) q34).trans (cI J (qB _ _)),?_⟩
  .rw[cY,cY] at hp;have hi:i<15:=by
    refine cM λh=>?_;rw[eI (by rw[dv];lia)] at hp;cases hp
   rw[fS hi] at hp;cases hp;have z:=cN.mp qz i (cO.mpr hi);refine⟨by show T.length+(3+2*i)<T.length+ts c;lia,(xw (by lia) z).trans (cI J (qB _ _))⟩
  .exact⟨by show T.length+35<T.length+ts c;lia,by show T.length+0<T.length+ts c;lia,by show T.length+34<T.length+ts c;lia⟩
end
def sR(n au az:Nat):Nat:=1 <<< (15*n+az) ^^^ if au=1 then 1 <<< (15*n+16) else 0
def uz(aS:List Nat)(n j:Nat):List Nat:=aS.take j++cZ (n - j) 0
theorem vT(hl:aS.length=n)(hj:j<=n):(uz aS n j).length=n:=by
 unfold uz;rw[a6,dE,eg];lia
theorem vo(hl:aS.length=n)(hj:j<=n):(uz aS n j).getD i 0=if i<j then aS.getD i 0 else 0:=by
 unfold uz;rw[ba,ba];by_cases h:i<j
 .rw[cG h,ae (by rw[dE];lia),eS h]
 .rw[cH h,cT (by rw[dE];lia)];rw[jS];split<;>rfl
theorem QV{l l':List Nat}(hl:l.length=l'.length)(h:∀i,l.getD i 0=l'.getD i 0):l=l':=by
 refine jT hl λi h1 h2=>?_;have:=h i;rw[ba,ba,a7 h1,a7 h2] at this;exact this
theorem OZ{aS:List Nat}(hl:aS.length=n)(hj:j<n)(h:aS.getD j 0=0):uz aS n (j+1)=uz aS n j:=
 QV (by rw[vT hl hj,vT hl (dJ hj)]) λi=>by
  rw[vo hl hj,vo hl (dJ hj)];by_cases e:i=j
  .subst e;rw[cG (dO _),cH (eZ _),h]
  .by_cases l:i<j
   .rw[cG l,cG (by lia)]
   .rw[cH l,cH (by lia)]
theorem PZ(hl:aS.length=n)(hj:j<n):(uz aS n j).set j (aS.getD j 0)=uz aS n (j+1):=
 pH (by rw[vT hl hj,vT hl (dJ hj)]) (λw=>by rw[vo hl hj,cG (dO _)]) λi e=>by
  rw[vo hl hj,vo hl (dJ hj)];by_cases l:i<j
  .rw[cG l,cG (by lia)]
  .rw[cH l,cH (by lia)]
theorem ET(h:∀i,f i=cj):rH f n=0:=by
 refine d0 λi=>?_;rw[pX,h,dy,fZ]
theorem XE(n:Nat)(aS:List Nat):WD n=oj n (uz aS n 0) 0 0 0 1 0 []:=by
 ext n aS;have g:∀i,(uz aS n 0).getD i 0=0:=λi=>by
  unfold uz;rw[eQ,fF,ba,jS];split<;>rfl
 unfold WD oj;have e1:sN n (uz aS n 0)=cZ 7 0:=by
  unfold sN;rw[show(λk=>rH (λs=>cu ((uz aS n 0).getD s 0≠0)&&cu ((uz aS n 0).getD s 0%8=k)) n)=λw=>0 from funext λk=>ET λi=>by rw[g];rfl];rfl
 have e2:sO n (uz aS n 0)=[0,0]:=by
  unfold sO;rw[show(λk=>rH (λs=>cu ((uz aS n 0).getD s 0≠0)&&cu ((uz aS n 0).getD s 0/8=k)) n)=λw=>0 from funext λk=>ET λi=>by rw[g];rfl];rfl
 have e3:Ac n (uz aS n 0)=0:=ET λi=>by
  rw[g];by_cases h:i/n=0
  .rw[h];rfl
  .rw[cD (p:=0=i/n) (λz=>h z.symm),fZ]
 rw[e1,e2,e3];unfold uz;rw[eQ,fF,ma];rfl
theorem CY{n:Nat}{c:List Nat}{au az aA av kx:Nat}{ay:List V}(hl:c.length=n)(hG:G.size=n):pL G (oj n c au az aA av kx ay):=
 ⟨hl.trans hG.symm,by show(sN n c).length=7;unfold sN;rw[bj,dv],by show(sO n c).length=2;unfold sO;rw[bj,dv]⟩
section
variable{d:Nat}{T:H}{au az aA cp:Nat}{aS:List Nat}
theorem aay(l:nw):l=(cn l.length).map λi=>l.getD i U:=by
 refine jT (by simp) λi h1 h2=>?_;rw[List.getElem_map,List.getElem_range,ba,a7 h1];rfl
def X0:Ss:=rI 6 qy.body
theorem Sk{a t0:H}{X:uG}{a0 a1 a8 a9 a10 a11 a13 a14 a15 a16 a17 a18:Option V}(hA:PA a X)(ht0:a=T++t0)(hX:X.G.size=F*R)(hL:CL F R aS)(hp:∀i,aS.getD i 0≠0->vb (aS.getD i 0))(hr:az<16)(L:T[cp]? =J (.list (aS.map nv)))(q:Q (.ref a.length) (st a X (oj (F*R) aS au az aA 1 (sR (F*R) au az) []) [.aT 0 (F*R:Nat) 1])):
  oI (K0 (d+3)) X0 [a0,a1,J (.ref cp),J (nv au),J (nv az),J (nv aA),J (nv (F*R)),J (nv (15*(F*R))),a8,a9,a10,a11,J (.ref a.length),a13,a14,a15,a16,a17,a18] (st a X (WD (F*R)) []) (qP T.length Q):=by
 revert a t0 X a0 a1 a8 a9 a10 a11 a13 a14 a15 a16 a17 a18;ext d T au az aA cp aS Q;ext a t0 X a0 a1 a8 a9 a10 a11 a13 a14 a15 a16 a17 a18;have hl:=hL.l;have hsz:=hL.bd.sz;have hcp:=f0 L;have lib:∀{j:Nat},j<=F*R->pL X.G (oj (F*R) (uz aS (F*R) j) 0 0 0 1 0 []):=λhj=>CY (vT hl hj) hX;have L':∀{P:Ps} {t:H},(st a X P t)[cp]? =J (.list (aS.map nv)):=λ{P t}=>by
  rw[sM (by rw[ht0,a6];lia),ht0,ae hcp];exact L
 refine rV (n:=0) (m:=F*R) (lw _) (qd (lz rfl) (by lia)) bn (by lia) (by lia)
  (λj e h=>∃x,st a X (oj (F*R) (uz aS (F*R) j) 0 0 0 1 0 []) [.aT 0 (F*R:Nat) 1]=h/\e=[a0,a1,J (.ref cp),J (nv au),J (nv az),J (nv aA),J (nv (F*R)),J (nv (15*(F*R))),a8,a9,x,a11,J (.ref a.length),a13,a14,a15,a16,a17,a18])
  ⟨a10,by rw[<- XE,rL];rfl,rfl⟩ (λj w hj e h z=>?_) λe h z=>?_
 .obtain⟨x,rfl,rfl⟩:=z;by_cases h0:aS.getD j 0=0
  .refine lv (t:=cj) (sB L' hL hj ∅ ∅) (by rw[oH,h0];rfl) (λe=>by cases e) λw=>om ⟨J (nv j),?_,rfl⟩;rw[OZ hl hj h0]
  .refine lv (t:=b9) (sB L' hL hj ∅ ∅) (by rw[oH];exact cI J (cC h0)) (λw=>?_) λe=>by cases e
   have pp:=Dc (n:=F*R) (G:=X.G) (au:=0) (az:=0) (aA:=0) (av:=1) (kx:=0) (ay:=[]) hX hj (vT hl (dJ hj)) (hp j h0) h0 (by rw[vo hl (dJ hj),cH (eZ _)]);rw[PZ hl hj] at pp;have kp:=uY (d:=d+1) (c:=[.aT 0 (F*R:Nat) 1]) (s:=j) hA (lib (dJ hj)) (hp j h0) (by rw[hX];exact hj);rw[pp] at kp;exact oO (bi (lc rfl (be (sB L' hL hj ∅ ∅) (lz rfl))) kp) (ld (om ⟨J (nv j),rfl,rfl⟩))
 .obtain⟨x,rfl,rfl⟩:=z;have ec:uz aS (F*R) (F*R)=aS:=by unfold uz;rw[eE,<-hl,dW];exact cP _
  rw[ec];have hb:15*(F*R)+az<=1000000:=by lia
  refine Ky ∅ ∅ (JB ∅ ∅ (Hv ∅ ∅ (uD ∅ (qu ac (qK ∅ ∅) ⋯ hb) ?_)));have fin:{(oj (F*R) aS au az aA 1 0 []:Ps) with key:=(oj (F*R) aS 0 0 0 1 0 []).key ^^^ 1 <<< (15*(F*R)+az)}=oj (F*R) aS au az aA 1 (1 <<< (15*(F*R)+az)) []:=by
   unfold oj;rw[iM]
  refine BY (h2:=st a X (oj (F*R) aS au az aA 1 (sR (F*R) au az) []) [.aT 0 (F*R:Nat) 1]) (oQ ∅ ac) bm (λe1 Rn=>?_) (λe1=>?_) (pq ∅ q)
  .have hb2:15*(F*R)+16<=1000000:=by lia
   refine uD ∅ (qu ac (qK ∅ ac) ⋯ hb2) (ld ?_);have e2:oj (F*R) aS au az aA 1 (sR (F*R) au az) []={(oj (F*R) aS au az aA 1 (1 <<< (15*(F*R)+az)) []) with key:=(oj (F*R) aS au az aA 1 (1 <<< (15*(F*R)+az)) []).key ^^^ 1 <<< (15*(F*R)+16)}:=by
    unfold oj sR;rw[cG (cy e1),eh]
   rw[e2,<-fin] at Rn;exact Rn
  .have e2:sR (F*R) au az=1 <<< (15*(F*R)+az):=by
    unfold sR;rw[cH (cz e1),iM]
   rw[e2,<-fin];rfl
theorem TU(F R:Nat):Ft F R=QR (CI 3) 6 qy.body (WY F R) []:=rfl
structure R9 (F R:Nat) (c:Bool) (e:nw) (h:H):Prop where
 g:Tt F R c h=b9
 d:h.drop (ts c)=[Yh (ts c) 36 35 (WD (F*R)),.list ((cZ (F*R) 0).map nv),.list ((cZ 7 0).map nv),.list ([0,0].map nv),.list []]
 e6:e[6]? =J (J (nv (F*R)))
 e7:e[7]? =J (J (nv (15*(F*R))))
 e12:e[12]? =J (J (.ref (ts c)))
 l:h.length=ts c+5
 el:e.length=19
 n:∀i∈[2,3,4,5],e[i]? =J U
theorem JA(e0:Ft F R=J (e,h,r))(ck:Qo F R cc=b9):R9 F R cc e h:=by
 ext e h r;have ck:Ta F R cc (J (e,h,r))=b9:=(cI (Ta F R cc) e0).symm.trans ck;have c1:=br ck;have c2:=br c1;have c3:=br c2;have c4:=br c3;have c5:=br c4;have c6:=br c5;exact⟨bl ck,Qk (bl c1),HQ (bl c2),HQ (bl c3),HQ (bl c4),cy (bl c5),cy (bl c6),λi hi=>W2 (cN.mp (br (br (br c6))) i hi)⟩
theorem JV(ck:Qo F R cc=b9):∃e h r,Ft F R=J (e,h,r):=by
 cases e0:Ft F R with
 | none=>have ck:Ta F R cc U=b9:=(cI (Ta F R cc) e0).symm.trans ck;exact(dd ck).elim
 | some q=>obtain⟨e,h,r⟩:=q;exact⟨e,h,r,rfl⟩
theorem Qx(e0:Ft F R=J (e,h,r)):hP F R=h:=(cI hR e0:hR (Ft F R)=hR (J (e,h,r)))
theorem R7(e0:Ft F R=J (e,h,r))(f:R9 F R cc e h):(aP T F R cc).length=T.length+ts cc:=by
 have l:=f.l;unfold aP;rw[Qx e0,yG,dE];lia
theorem Zh{e:nw}{h:H}{r:Ss}(e0:Ft F R=J (e,h,r))(f:R9 F R cc e h):qx T h=st (aP T F R cc) (xS T.length F R cc) (WD (F*R)) []:=by
 ext T e h r;have al:=R7 (T:=T) e0 f;have e1:h=h.take (ts cc)++h.drop (ts cc):=(gV _ _).symm;unfold st;rw[al];rw[e1,LB,f.d,cP];unfold aP;rw[Qx e0];unfold blk;show _++[J4 T.length (Yh (ts cc) 36 35 (WD (F*R))),J4 T.length (.list ((cZ (F*R) 0).map nv)),J4 T.length (.list ((cZ 7 0).map nv)),J4 T.length (.list (([0,0]:List Nat).map nv)),J4 T.length (.list [])]=_;rw[qB,qB,qB];rfl
theorem abf{n cp au az aA:Nat}:Cv n (oU 18 [nv F,nv R,.ref cp,nv au,nv az,nv aA]) (WY F R) (oU 18 [nv F,nv R,.ref cp,nv au,nv az,nv aA]):=by
 ext n cp au az aA;exact⟨rfl,λi v g=>by
   match i,g with
   | 0,g=>cases g;rfl
   | 1,g=>cases g;rfl
   | i+2,g=>
    have:∀x∈([U,U,U,U,U,U,U,U,U,U,U,U,U,U,U,U,U]:nw),x=U:=by simp
    exact cJ (this _ (dD (show([U,U,U,U,U,U,U,U,U,U,U,U,U,U,U,U,U]:nw)[i]? =J (J v) from g))) (jf v),λi g=>rfl⟩
theorem Xu{x2 x3 x4 x5 x6 x7 x12:Option V}(h:l.length=19)(f2:l[2]? =J x2)(f3:l[3]? =J x3)(f4:l[4]? =J x4)(f5:l[5]? =J x5)(f6:l[6]? =J x6)(f7:l[7]? =J x7)(f12:l[12]? =J x12):
  ∃a0 a1 a8 a9 a10 a11 a13 a14 a15 a16 a17 a18,l=[a0,a1,x2,x3,x4,x5,x6,x7,a8,a9,a10,a11,x12,a13,a14,a15,a16,a17,a18]:=by
 ext l x2 x3 x4 x5 x6 x7 x12;have e:=aay l;have g:∀{i:Nat} {x:Option V},l[i]? =J x->l.getD i U=x:=λf=>by rw[ba,f];rfl
 rw[h] at e;rw[<- g f2,<-g f3,<-g f4,<-g f5,<-g f6,<-g f7,<-g f12];exact⟨_,_,_,_,_,_,_,_,_,_,_,_,e⟩
theorem TC:X0=rI 6 qy.body:=rfl
theorem QD(b:VL F R cc):PA (aP T F R cc) (xS T.length F R cc):=by
 obtain⟨e,h,r,e0⟩:=JV b.chk;have f:=JA e0 b.chk;unfold aP;rw[Qx e0];exact YK b f.g f.l
theorem DL(b:VL F R cc)(hL:CL F R aS)(hp:∀i,aS.getD i 0≠0->vb (aS.getD i 0))(hr:az<16)(L:T[cp]? =J (.list (aS.map nv))):
  ii (K0 (d+4)) 917 [nv F,nv R,.ref cp,nv au,nv az,nv aA] T (.ref (aP T F R cc).length) (st (aP T F R cc) (xS T.length F R cc) (oj (F*R) aS au az aA 1 (sR (F*R) au az) []) [.aT 0 (F*R:Nat) 1]):=by
 ext d T au az aA cp aS;obtain⟨e,h,r,e0⟩:=JV b.chk;have f:=JA e0 b.chk;have al:=R7 (T:=T) e0 f;have hh:=Zh (T:=T) e0 f;have hA:=QD (T:=T) b;obtain⟨t0,ht0⟩:=(⟨_,rfl⟩:∃t,aP T F R cc=T++t)
 have e1:=e0;rw[TU] at e1;have rr:=Ga _ _ e1;rw[<- TC] at rr;have rr:r=X0:=rr;refine mk (λQ=>E1 rfl) λQ q hc=>?_;have rest:∀aL,Cv T.length (oU 18 [nv F,nv R,.ref cp,nv au,nv az,nv aA]) e aL->oI (K0 (d+3)) r aL (qx T h) (qP T.length Q):=λaL cv=>by
  have pe:qY T.length (.ref (ts cc))= .ref (aP T F R cc).length:=by rw[al];rfl
  have f12:=cv.bZ 12 _ f.e12;rw[pe] at f12;obtain⟨a0,a1,a8,a9,a10,a11,a13,a14,a15,a16,a17,a18,rfl⟩:=Xu (l:=aL) (x2:=J (.ref cp)) (x3:=J (nv au)) (x4:=J (nv az)) (x5:=J (nv aA)) (by rw[<- cv.len];exact f.el)
   (cv.none_ 2 (f.n 2 (by simp))) (cv.none_ 3 (f.n 3 (by simp))) (cv.none_ 4 (f.n 4 (by simp))) (cv.none_ 5 (f.n 5 (by simp))) (cv.bZ 6 _ f.e6) (cv.bZ 7 _ f.e7) f12
  rw[hh,rr];exact Sk hA ht0 rfl hL hp hr L q
 have go:=Nx (K:=K0 (d+3)) (T:=T) (Q:=qP T.length Q) (lw _) C0 rfl (S9 (d:=d) 3) 6 (t:=qy.body) (h:=[]) e1 abf rest;have e3:qx T []=T:=cP _;rw[e3] at go;exact go
end
structure xx (F R:Nat) (cs:List Nat):Prop where
 cl:CL F R cs
 pv:∀i,cs.getD i 0=0\/1<=cs.getD i 0%8/\cs.getD i 0%8<=6
 k0:∃k,k<F*R/\∀i,cs.getD i 0=6↔i=k
 k1:∃k,k<F*R/\∀i,cs.getD i 0=14↔i=k
 pw:Br F R cs
def wV(F R:Nat)(cs:List Nat)(i:Nat):Bool:=cu (F=7)&&(cu (R=3)&&(cu (cs.getD (i/2*14+3) 0=i/2*8+6)&&cu (cs.getD (i/2*14+6*(1 - i%2)) 0=i/2*8+4)))
structure Gp (F R:Nat) (cs:List Nat) (au az:Nat):Prop where
 cg:xx F R cs
 sf:tL F R cs (cs.idxOf (14 - 8*au)) (1 - au)=b9
 rt:∀i,i<4->az >>> i &&& 1≠0->wV F R cs i=b9
 sd:au<2
 r16:az<16
def SN(F R:Nat)(cs:List Nat)(x:Nat):Bool:=(cn (F*R)).any λk=>(cn (F*R)).all λi=>cu (cs.getD i 0=x) == cu (i=k)
def Va(F R:Nat)(cs:List Nat)(au az:Nat):Bool:=
 cu (cs.length=F*R)&&((cn (F*R)).all λi=>cu (cs.getD i 0<16)&&(cu (cs.getD i 0=0)||decide (1<=cs.getD i 0%8/\cs.getD i 0%8<=6))&&cu (cs.getD i 0%8≠1))&&
 SN F R cs 6&&SN F R cs 14&&tL F R cs (cs.idxOf (14 - 8*au)) (1 - au)&&((cn 4).all λi=>cu (az >>> i &&& 1=0)||wV F R cs i)
theorem w5{l:List Nat}(h:¬i<l.length):l.getD i 0=0:=by rw[ba,eI (d7 h)];rfl
theorem Nh{F R x:Nat}(hl:cs.length=F*R)(hx:x≠0)(h:SN F R cs x=b9):∃k,k<F*R/\∀i,cs.getD i 0=x↔i=k:=by
 obtain⟨k,hk,h⟩:=ez.mp h;refine⟨k,cO.mp hk,λi=>?_⟩;by_cases hi:i<F*R
 .have:=cK (cN.mp h i (cO.mpr hi))
  rwa [de,cA,cA] at this
 .rw[w5 (by rw[hl];exact hi)];exact⟨λz=>cJ z.symm hx,λz=>cJ (z▸cO.mp hk) hi⟩
theorem VW{F R au az:Nat}{cs:List Nat}(bd:Bd F R)(hs:au<2)(hr:az<16)(h:Va F R cs au az=b9):Gp F R cs au az:=by
 ext F R au az cs;unfold Va at h;simp only[ax,cA] at h;obtain⟨⟨⟨⟨⟨h1,h2⟩,h3⟩,h4⟩,h5⟩,h6⟩:=h;have all:∀i,cs.getD i 0<16/\(cs.getD i 0=0\/1<=cs.getD i 0%8/\cs.getD i 0%8<=6)/\cs.getD i 0%8≠1:=λi=>by
  by_cases hi:i<F*R
  .have:=cN.mp h2 i (cO.mpr hi);simp only[ax,cW,cA] at this;exact⟨this.1.1,this.1.2,this.2⟩
  .rw[w5 (by rw[h1];exact hi)];exact⟨by decide,.inl rfl,by decide⟩
 refine⟨⟨⟨bd,h1,λi=>(all i).1⟩,λi=>(all i).2.1,Nh h1 ⋯ h3,Nh h1 ⋯ h4,λs w h=>cJ h (all s).2.2⟩,h5,λi hi hb=>?_,hs,hr⟩;have:=cN.mp h6 i (cO.mpr hi);rcases (cW _ _).mp this with h | h
 .exact cJ (cy h) hb
 .exact h
def Xb(n:Nat):Nat:=([6,0,20,14]:List Nat).getD n 0
def Zl(n:Nat):Nat:=([4,4,12,12]:List Nat).getD n 0
def PD(r:Nat):Nat->List Nat
 | 0=>((cZ 21 0).set 3 6).set 17 14
 | n+1=>if r >>> n &&& 1≠0 then(PD r n).set (Xb n) (Zl n) else PD r n
theorem HM(r:Nat):∀n,(PD r n).length=21
 | 0=>by rw[PD,cR,cR,eg]
 | n+1=>by
  rw[PD];split
  .rw[cR];exact HM r n
  .exact HM r n
theorem XX:((cn 16).all λr=>(cn 2).all λs=>Va 7 3 (PD r 4) s r)=b9:=by decide +kernel
def JU(w:Nat):List Nat:=(cZ 12 0).set w 6
def RP(w s:Nat):List Nat:=(JU w).set s 14
def dist(a b:Nat):Nat:=a - b+(b - a)
def far(w s:Nat):Bool:=cu (1<dist (s%3) (w%3))||decide (1<dist (s/3) (w/3))
theorem Vi:((cn 12).all λw=>(cn 12).all λs=> !far w s||(cn 2).all λsd=>Va 3 4 (RP w s) sd 0)=b9:=by decide +kernel
theorem WR:((cn 12).all λw=>(cn 12).any λs=>far w s)=b9:=by decide +kernel
theorem xa{cs:List Nat}(hl:cs.length=F*R){k:Nat}(hk:k<F*R)(h:∀i,cs.getD i 0=x↔i=k):x∈cs/\cs.idxOf x=k:=by
 have hk':k<cs.length:=hl▸hk;have e:cs[k]=x:=by
  have:=(h k).mpr rfl
  rwa [ba,a7 hk'] at this
 have m:x∈cs:=e▸du hk';refine⟨m,(h _).mp ?_⟩;have l:=jE.mpr m;rw[ba,a7 l];exact lB l
theorem xx.king(h:xx F R cs)(hs:au<2):∃k,k<F*R/\∀i,cs.getD i 0=au*8+6↔i=k:=by
 rcases (u2 (by assumption:au<2)) with e | e<;>subst e
 .exact h.k0
 .exact h.k1
theorem Gp.place{cs:List Nat}(g:Gp F R cs au az)(hs:s<F*R)(h0:cs.getD s 0=0)(hk:1<=kd/\kd<=5)(hc:c<2)(hp:kd=1->F<=s/\s+F<F*R)(sf:tL F R (cs.set s (c*8+kd)) ((cs.set s (c*8+kd)).idxOf (14 - 8*au)) (1 - au)=b9):Gp F R (cs.set s (c*8+kd)) au az:=by
 ext au az s kd c cs;have hl:=g.cg.cl.l;have sl:s<cs.length:=by rw[hl];exact hs
 have gs:∀i,(cs.set s (c*8+kd)).getD i 0=if i=s then c*8+kd else cs.getD i 0:=λi=>by
  rw[zi];by_cases e:s=i
  .rw[cG ⟨e,sl⟩,cG e.symm]
  .rw[cH (λz=>e z.1),cH (λz=>e z.symm)]
 have kg:∀x,x=6\/x=14->(∃k,k<F*R/\∀i,cs.getD i 0=x↔i=k)->∃k,k<F*R/\∀i,(cs.set s (c*8+kd)).getD i 0=x↔i=k:=λx hx ⟨k,k1,k2⟩=>⟨k,k1,λi=>by
  rw[gs];by_cases e:i=s
  .rw[cG e];subst e;refine⟨λz=>by rcases hx with h | h<;>lia,λz=>?_⟩;subst z;have:=(k2 i).mpr rfl;rcases hx with h | h<;>lia
  .rw[cH e];exact k2 i⟩
 refine⟨⟨g.cg.cl.set (by lia),λi=>?_,kg 6 (.inl rfl) g.cg.k0,kg 14 (.inr rfl) g.cg.k1,λi hi h=>?_⟩,sf,λi hi hb=>?_,g.sd,g.r16⟩
 .rw[gs];split
  .right;lia
  .exact g.cg.pv i
 .rw[gs] at h;by_cases e:i=s
  .rw[cG e] at h;subst e;exact hp (by lia)
  .rw[cH e] at h;exact g.cg.pw i hi h
 .have z:=g.rt i hi hb;unfold wV at z ⊢;simp only[ax,cA] at z ⊢;obtain⟨z1,z2,z3,z4⟩:=z;refine⟨z1,z2,?_,?_⟩
  .rw[gs,cH (λe=>by rw[e,h0] at z3;lia)];exact z3
  .rw[gs,cH (λe=>by rw[e,h0] at z4;lia)];exact z4
structure Rk (K:pN) (f:Nat) (vs:List V) (h:H) (R:V->H->Prop):Prop where
 go:∀Q:V->H->Prop,(∀v h',R v h'->Q v h')->K.call f vs h Q
theorem mkX{K K':pN}{f:Nat}{vs:List V}{body:Ss}{e:nw}{T:H}{R:V->H->Prop}(F:∀Q,(o6 T.length T->uO K' body e T (qP T.length Q))->K.call f vs T Q)(G:∀Q:V->H->Prop,(∀v h',R v h'->Q v h')->o6 T.length T->oI K' body e T (qP T.length Q)):Rk K f vs T R:=
 ⟨λQ q=>F Q λhc=>(G Q q hc).go⟩
section
variable{K:pN}{e:nw}{h A t:H}{a b:E}{i j n m x y:Nat}{l:List Nat}
theorem E0(hi:i<l.length)(hm:l.length<1000):pZ (.ref A.length) (nv i) (nv m) (A++(.list (l.map nv)::t))=J (A++(.list ((l.set i m).map nv)::t)):=by
 rw[DX (by simp) hi hm,eA _ _ (da _),eE,iA]
theorem QA(B:db K a e h (nv x) h)(C:db K b e h (nv y) h):db K (.abs i (.bin .sub a b)) e h (nv (dist x y)) h:=by
 ext K e h a b i x y;have z:=uF (o:=.sub) (z:=.int ((x:Int) - y)) B C rfl;refine⟨λQ q=>z.go _ ?_⟩;show Q (.int (if(x:Int) - y<0 then -((x:Int) - y) else(x:Int) - y)) h;have:(if(x:Int) - y<0 then -((x:Int) - y) else(x:Int) - y)=((dist x y:Nat):Int):=by
  unfold dist;split<;>lia
 rw[this];exact q
theorem TV(n m:Nat):(cZ n [nv m]).flatten=(cZ n m).map nv:=by
 induction n with
 | zero=>rfl
 | succ n ih=>rw[fQ,iI,ih,fQ,dA];rfl
theorem Tb(h:l.getD i 0=0):(l.set i x).set i 0=l:=by
 rw[gU];exact pH rfl (λw=>h) λw w=>rfl
end
def Xn:Ss:=match BL.body with
 | .cons _ (.cons _ (.cons _ r))=>r
 | _=>.nil
def YR(n:Int):Nat:=([0,5,4,2,3,1,4,3]:List Nat).getD (fg n 8).toNat 0
def TK(F R:Nat):Prop:=F=3/\R=4\/F=7/\R=3
theorem EB:TK F R:=KY (C:=λF R w=>TK F R) (.inl ⟨rfl,rfl⟩) (.inr ⟨rfl,rfl⟩)
theorem TK.bd(h:TK F R):Bd F R:=KY (C:=λF R w=>Bd F R) Zs YG
section
variable{d:Nat}{T:H}{au az np:Nat}{Q:V->H->Prop}{ns:List Int}
theorem sI(x:Int){n:Nat}(h:0<n):(fg x n).toNat<n:=by
 ext x n;have h':(0:Int)<(n:Int):=by lia
 have:=lF x h';have:=iN x h';lia
theorem yI{K:pN}(A:db K a e h (.int x) h)(B:db K b e h (nv n) h)(l:0<n)(l':n<1000000):db K (.bin .div a b) e h (.int (fH x n)) h:=uF A B (by
 unfold pD nv;dsimp only
 (rewrite [cG (by(rewrite [ax,cA,cA];try with_reducible rfl);lia)];try with_reducible rfl))
theorem K5{jk:H}{x7 x8 x9 bY:Option V}(EB:TK F R)(g:Gp F R cs au az)(hn:ns.length=7)(N:T[np]? =J (.list (ns.map .int)))(hc:o6 T.length T)(q:∀cs,Gp F R cs au az->Q (.ref T.length) (T++[.list (cs.map nv)])):oI (K0 (d+2)) Xn [J (nv F),J (nv R),J (nv au),J (nv az),J (.ref np),J (nv (F*R)),J (.ref T.length),x7,x8,x9,bY,U,U,U,U,U,U] (T++(.list (cs.map nv)::jk)) (qP T.length Q):=by
 revert az np Q ns cs jk x7 x8 x9 bY;ext d T au;ext az np Q ns cs jk x7 x8 x9 bY;have bd:=EB.bd;have hF:=bd.f;have hR:=bd.r;have hsz:=bd.sz;have hs2:=g.sd;have sz0:0<F*R:=by rcases EB with⟨h1,h2⟩ | ⟨h1,h2⟩<;>rw[h1,h2]<;>decide
 have N':∀{t:H},(T++t)[np]? =J (.list (ns.map .int)):=λ{t}=>(ae (f0 N)).trans N;refine Hn (v:=.ref (T++(.list (cs.map nv)::jk)).length) (xs:=((ns.map V.int).take 7).drop 3) (lw _) (vW ∅ qI qI (by
   exact tC (x:=.ref np) (a:=3) (b:=7) N' rfl rfl (by rw[bj,hn];decide))) bn
  (λj e h=>∃cs jk2 bY x11 x12,Gp F R cs au az/\T++(.list (cs.map nv)::(jk++[.list (((ns.map V.int).take 7).drop 3)]++jk2))=h/\e=[J (nv F),J (nv R),J (nv au),J (nv az),J (.ref np),J (nv (F*R)),J (.ref T.length),x7,x8,x9,bY,x11,x12,U,U,U,U])
  ⟨cs,[],bY,U,U,g,by simp,rfl⟩ (λj e h z=>?_) rfl (λj v hv e h z=>?_) λe h z=>?_
 .refine bc λkk=>?_;obtain⟨cs',jk2,_,_,_,_,rfl,_⟩:=z;refine kk ?_;clear kk;show(T++(O.list (cs'.map nv)::(jk++[.list (((ns.map V.int).take 7).drop 3)]++jk2)))[(T++(.list (cs.map nv)::jk)).length]? =_;rw[<- eD,<-eD,<-aa,<-aa,ae (by simp)];exact pW (by simp)
 .refine bc λkk=>?_;obtain⟨cs,jk2,y10,y11,y12,g,rfl,rfl⟩:=z;refine kk ?_;clear kk;have hv2:∃n:Int,v= .int n:=by
   have:v∈ns.map V.int:=hE (kP (dD hv));obtain⟨n,_,rfl⟩:=ef.mp this;exact⟨n,rfl⟩
  obtain⟨n,rfl⟩:=hv2;obtain⟨jk3,hjk⟩:=(⟨_,rfl⟩:∃jk3,jk3=jk++[O.list (((ns.map V.int).take 7).drop 3)]++jk2)
  have aB:∀cs' jk' bY x11 x12,Gp F R cs' au az->∃cs jk2 y10 y11 y12,Gp F R cs au az/\T++(.list (cs.map nv)::(jk++[.list (((ns.map V.int).take 7).drop 3)]++jk2))=T++(O.list (cs'.map nv)::(jk3++jk'))/\[J (nv F),J (nv R),J (nv au),J (nv az),J (.ref np),J (nv (F*R)),J (.ref T.length),x7,x8,x9,bY,x11,x12,U,U,U,U]=[J (nv F),J (nv R),J (nv au),J (nv az),J (.ref np),J (nv (F*R)),J (.ref T.length),x7,x8,x9,y10,y11,y12,U,U,U,U]:=
   λcs' jk' bY x11 x12 g'=>⟨cs',jk2++jk',bY,x11,x12,g',by rw[hjk];simp,rfl⟩
  rw[<- hjk];clear hjk;obtain⟨kd,hkd⟩:=(⟨_,rfl⟩:∃kd,kd=YR n)
  have k5:kd<=5:=by
   rw[hkd];exact(by decide:∀m<8,([0,5,4,2,3,1,4,3]:List Nat).getD m 0<=5) _ (sI n (n:=8) ⋯)
  have hl:=g.cg.cl.l;obtain⟨s,hs⟩:=(⟨_,rfl⟩:∃s,s=(fg (fH n 16) (F*R:Nat)).toNat)
  have s1:s<F*R:=by rw[hs];exact sI _ sz0
  refine(bs (v:=nv kd) (pz (qp (xs:=([0,5,4,2,3,1,4,3]:List Nat).map nv) (be ac (be ac (be ac (be ac (be ac (be ac (be ac (be ac f8)))))))) (by show(8:Nat)<=1000;decide)) (sE ∅ (ac (n:=8)) ⋯) (io bn) (by rw[hkd];exact v9 (sI _ ⋯)) (cX (sI _ ⋯) ⋯))
   (bs (v:=nv s) (by rw[hs];exact sE (yI ∅ (ac (n:=16)) ⋯ ⋯) ∅ sz0) ?_)).go
  have Lc:∀{l:List Nat} {t t':H},(T++(O.list (l.map nv)::t)++t')[T.length]? =J (.list (l.map nv)):=λ{l t t'}=>by rw[aa,eD];simp
  have cell:∀{e:nw} {t:H},e[6]? =J (J (.ref T.length))->e[10]? =J (J (nv s))->db (K0 (d+2)) (.sub (.loc 6) (.loc 10)) e (T++(.list (cs.map nv)::jk3)++t) (nv (cs.getD s 0)) (T++(.list (cs.map nv)::jk3)++t):=λl6 l10=>sB Lc g.cg.cl s1 (r_loc l6) (r_loc l10);by_cases z0:kd=0
  .refine lv (t:=cj) (ru (t:=cj) (x:=nv kd) ∅ (by rw[oH,z0];rfl) (λe=>by cases e) λw=>⟨rfl,rfl⟩) (by rw[oH,z0];rfl) (λe=>by cases e) λw=>?_;rw[aa,eD];exact om (aB cs _ _ _ _ g)
  have hF0:0<F:=by lia
  refine lv (x:=.bool (cu (cs.getD s 0=0)&&(cu (kd≠1)||(cu (0<s/F)&&cu (s/F<R - 1))))) (t:=cu (cs.getD s 0=0)&&(cu (kd≠1)||(cu (0<s/F)&&cu (s/F<R - 1)))) (ru (t:=b9) (x:=nv kd) ∅ (by rw[oH];exact cI J (cC z0)) (λw=>sP (oQ (cell rfl rfl) ac) (sQ (tP ∅ ac) (Ma (x:=nv 0) (z:=nv (R - 1)) ac (sX ∅ ∅ hF0 (by lia)) (oM ∅ ac (by show 1<=R;lia)) ?_ ?_))) λe=>by cases e) rfl (λe1=>?_) λe1=>?_
  .show J (cu ((0:Int)<((s/F:Nat):Int)))=J (cu (0<s/F));congr 1;rw[de];simp only[cA];lia
  .show J (cu (((s/F:Nat):Int)<((R - 1:Nat):Int)))=J (cu (s/F<R - 1));congr 1;rw[de];simp only[cA];lia
  .simp only[ax,cW,cA] at e1;obtain⟨c0,c1⟩:=e1;obtain⟨cc,hcc⟩:=(⟨_,rfl⟩:∃cc,cc=(fg (fH n 8) (2:Nat)).toNat)
   have cc2:cc<2:=by rw[hcc];exact sI _ ⋯
   have pw:kd=1->F<=s/\s+F<F*R:=λe=>by
    rcases c1 with h | h
    .exact cJ e h
    .rcases EB with⟨h1,h2⟩ | ⟨h1,h2⟩<;>lia
   have sl:s<cs.length:=by rw[hl];exact s1
   have cl':CL F R (cs.set s (cc*8+kd)):=g.cg.cl.set (by lia);have bV:14 - 8*au∈cs.set s (cc*8+kd):=by
    obtain⟨k,k1,k2⟩:=g.cg.king (c2 au);have e:(1 - au)*8+6=14 - 8*au:=(RK hs2).1;rw[e] at k2;have ck:cs.getD k 0=14 - 8*au:=(k2 k).mpr rfl;have ne:s≠k:=λz=>by rw[<- z,c0] at ck;lia
    have:(cs.set s (cc*8+kd)).getD k 0=14 - 8*au:=by rw[im k (dT ne)];exact ck
    have kl:k<(cs.set s (cc*8+kd)).length:=by rw[cR,hl];exact k1
    rw[ba,a7 kl] at this;exact this▸du kl
   rw[aa,eD];refine uB (v:=nv (cc*8+kd)) (qK (sr (n:=cc) (by rw[hcc];exact sE (yI ∅ (ac (n:=8)) ⋯ ⋯) (ac (n:=2)) ⋯) ac (cX cc2 ⋯) ⋯) ∅) ∅ ∅ (E0 sl (by lia)) ?_;have g2:∀{l:List Nat} {t:H},(T++(O.list (l.map nv)::t))[T.length]? =J (.list (l.map nv)):=λ{l t}=>by simp
   have kq:db (K0 (d+2)) (.bin .sub (.int 14) (.bin .mul (.int 8) (.loc 2))) [J (nv F),J (nv R),J (nv au),J (nv az),J (.ref np),J (nv (F*R)),J (.ref T.length),x7,x8,x9,J (nv s),J (.int n),J (nv kd),U,U,U,U] (T++(.list ((cs.set s (cc*8+kd)).map nv)::(jk3++[.list (([0,5,4,2,3,1,4,3]:List Nat).map nv)]))) (nv (14 - 8*au)) (T++(.list ((cs.set s (cc*8+kd)).map nv)::(jk3++[.list (([0,5,4,2,3,1,4,3]:List Nat).map nv)]))):=
    oM ac (sr ac ∅ ⋯ (by lia)) (by show 8*au<=14;lia)
   refine lv (ux (bi (lc rfl (lc rfl (lc rfl (be (Io ∅ g2 kq bV (by rw[cR];lia)) (be (oM ac ∅ (dk hs2)) f8))))) (yM cl' g2)) bm) bm (λe2=>?_) λe2=>?_
   .refine uB (v:=nv 0) ac ∅ ∅ (E0 (by rw[cR];exact sl) (by rw[cR];lia)) (ld (ld (om ?_)));rw[Tb c0];exact aB cs _ _ _ _ g
   .have e3:tL F R (cs.set s (cc*8+kd)) ((cs.set s (cc*8+kd)).idxOf (14 - 8*au)) (1 - au)=b9:=by simpa using e2
    exact ld (om (aB _ _ _ _ _ (g.place s1 c0 ⟨ei z0,k5⟩ cc2 pw e3)))
  .rw[aa,eD];exact om (aB cs _ _ _ _ g)
 .refine bc λkk=>?_;obtain⟨cs,jk2,y10,y11,y12,g,rfl,rfl⟩:=z;refine kk ?_;clear kk;exact Pb ∅ (i:=0) rfl rfl As hc (q cs g) λw w z=>z
theorem Qq(w:Nat):14∉JU w:=λh=>by
 unfold JU at h;rcases jx h with h | h
 .have:=List.eq_of_mem_replicate h;cases this
 .cases h
theorem P8(h:s<12):14∈RP w s:=by
 unfold RP;exact List.mem_set (by unfold JU;rw[cR,eg];exact h) 14
theorem Xf(r n:Nat)(hn:n<4):Xb n<21:=by
 exact V7 hn ⋯ ⋯ ⋯ ⋯
theorem Km(EB:TK F R)(hs:au<2)(hr:az<16)(hr0:F=3->az=0)(hn:ns.length=7)(N:T[np]? =J (.list (ns.map .int))):
  Rk (K0 (d+3)) 912 [nv F,nv R,nv au,nv az,.ref np] T λv h'=>∃cs,Gp F R cs au az/\v= .ref T.length/\h'=T++[.list (cs.map nv)]:=by
 ext d T au az np ns;exact mkX (λQ=>Js rfl) λQ q hc=>by
   ext Q;have bd:=EB.bd;have hF:=bd.f;have hR:=bd.r;have hsz:=bd.sz;have sz0:0<F*R:=by rcases EB with⟨h1,h2⟩ | ⟨h1,h2⟩<;>rw[h1,h2]<;>decide
   have rest:=λ(cs:List Nat) (jk:H) (x7 x8 x9 bY:Option V) (g:Gp F R cs au az)=>K5 (d:=d) (x7:=x7) (x8:=x8) (x9:=x9) (bY:=bY) (jk:=jk) (Q:=Q) EB g hn N hc λcs g=>q _ _ ⟨cs,g,rfl,rfl⟩;have N':∀{t:H},(T++t)[np]? =J (.list (ns.map .int)):=λ{t}=>(ae (f0 N)).trans N;refine bs (sr ∅ ∅ (by lia) (by lia)) (bs (Nq (be (ac (n:=0)) f8) ∅ (by show(1:Nat)<=10;decide) (by lia)) ?_);rw[TV];have LA:∀{l:List Nat} {t:H},(T++(O.list (l.map nv)::t))[T.length]? =J (.list (l.map nv)):=λ{l t}=>by simp
   refine uJ (oQ ∅ ac) bm (λe1=>?_) λe1=>?_
   .have e1:=cy e1;obtain⟨hF7,hR3⟩:F=7/\R=3:=by
     rcases EB with⟨h1,h2⟩ | ⟨h1,h2⟩
     .rw[h1] at e1;cases e1
     .exact⟨h1,h2⟩
    rw[hF7,hR3] at bd rest ⊢;refine uB ac ∅ (ac (n:=3)) (E0 (t:=[]) (by rw[eg];decide) (by rw[eg];decide)) ?_;refine uB ac ∅ (ac (n:=17)) (E0 (t:=[]) (by rw[cR,eg];decide) (by rw[cR,eg];decide)) ?_;refine rV (n:=0) (m:=4) (lw _) (qd (be ac f8) ⋯) bn ⋯ ⋯
     (λj e h=>∃jk x7,T++(.list ((PD az j).map nv)::jk)=h/\e=[J (nv 7),J (nv 3),J (nv au),J (nv az),J (.ref np),J (nv (7*3)),J (.ref T.length),x7,U,U,U,U,U,U,U,U,U])
     ⟨[.aT 0 4 1],U,by rw[aa];rfl,rfl⟩ (λj w hj e h z=>?_) λe h z=>?_
    .obtain⟨jk,x7,rfl,rfl⟩:=z;have kl:=HM az j;refine lv (nb (rF ∅ ∅) ac) oH (λe2=>?_) λe2=>om ⟨jk,J (nv j),?_,rfl⟩
     .have e2:=cy e2;have kt:=Xf az j hj;have a1:=pz (K:=K0 (d+2)) (a:=.list (.cons (.int 4) (.cons (.int 4) (.cons (.int 12) (.cons (.int 12) .nil))))) (b:=.loc 7) (e:=[J (nv 7),J (nv 3),J (nv au),J (nv az),J (.ref np),J (nv (7*3)),J (.ref T.length),J (nv j),U,U,U,U,U,U,U,U,U]) (h:=T++(.list ((PD az j).map nv)::jk)) (qp (xs:=([4,4,12,12]:List Nat).map nv) (be ac (be ac (be ac (be ac f8)))) (by show(4:Nat)<=1000;decide)) ∅ (io bn) (v9 hj) (by lia);have a2:=pz (K:=K0 (d+2)) (a:=.list (.cons (.int 6) (.cons (.int 0) (.cons (.int 20) (.cons (.int 14) .nil))))) (b:=.loc 7) (e:=[J (nv 7),J (nv 3),J (nv au),J (nv az),J (.ref np),J (nv (7*3)),J (.ref T.length),J (nv j),U,U,U,U,U,U,U,U,U]) (h:=T++(.list ((PD az j).map nv)::jk)++[.list (([4,4,12,12]:List Nat).map nv)]) (qp (xs:=([6,0,20,14]:List Nat).map nv) (be ac (be ac (be ac (be ac f8)))) (by show(4:Nat)<=1000;decide)) ∅ (io bn) (v9 hj) (by lia);refine uB a1 ∅ a2 (h4:=T++(.list (((PD az j).set (Xb j) (Zl j)).map nv)::(jk++[.list (([4,4,12,12]:List Nat).map nv)]++[.list (([6,0,20,14]:List Nat).map nv)]))) ?_ (ld (om ⟨jk++[.list (([4,4,12,12]:List Nat).map nv)]++[.list (([6,0,20,14]:List Nat).map nv)],J (nv j),?_,rfl⟩))
      .rw[aa,aa,eD,<-aa];exact E0 (by rw[kl];exact kt) (by rw[kl];decide)
      .rw[PD,cG e2]
     .rw[PD,cH (cz e2)]
    .obtain⟨jk,x7,rfl,rfl⟩:=z;have ck:=cN.mp (cN.mp XX az (cO.mpr hr)) au (cO.mpr hs);exact ld (rest _ _ _ _ _ _ (VW bd hs hr ck))
   .have e1:=cz e1;obtain⟨hF3,hR4⟩:F=3/\R=4:=by
     rcases EB with⟨h1,h2⟩ | ⟨h1,h2⟩
     .exact⟨h1,h2⟩
     .exact cJ h1 e1
    obtain rfl:=hr0 hF3;rw[hF3,hR4] at bd rest ⊢;obtain⟨n2,hn2⟩:∃n2,(ns.map V.int)[2]? =J (.int n2):=by
     rw[cY,a7 (by rw[hn];decide)];exact⟨_,rfl⟩
    ext n2;have num:∀{e:nw} {t:H},e[4]? =J (J (.ref np))->db (K0 (d+2)) (.sub (.loc 4) (.int 2)) e (T++t) (.int n2) (T++t):=λl=>pz (r_loc l) (ac (n:=2)) (io N') hn2 ⋯;obtain⟨wh,hwh⟩:=(⟨_,rfl⟩:∃wh,wh=(fg n2 (3*4:Nat)).toNat)
    ext wh;have w12:wh<12:=by rw[hwh];exact sI n2 (n:=12) ⋯
    refine bs (v:=nv wh) (by rw[hwh];exact sE (num rfl) ∅ ⋯) (uB ac ∅ ∅ (E0 (t:=[]) (by rw[eg];exact w12) (by rw[eg];decide)) ?_);obtain⟨sk,hsk⟩:=(⟨_,rfl⟩:∃sk:Nat->Nat,sk=λk:Nat=>(fg (fH n2 (3*4:Nat)+(k:Int)) (3*4:Nat)).toNat)
    ext sk;have sk12:∀k,sk k<12:=λk=>by rw[hsk];exact sI _ (n:=12) ⋯
    refine rV (n:=0) (m:=3*4) (lw _) (qd (lz rfl) ⋯) bn ⋯ ⋯
     (λj e h=>∃cs jk x9 bY,T++(.list (cs.map nv)::jk)=h/\(cs=JU wh/\(∀k,k<j->far wh (sk k)=cj)\/∃s,s<12/\far wh s=b9/\cs=RP wh s)/\e=[J (nv 3),J (nv 4),J (nv au),J (nv 0),J (.ref np),J (nv (3*4)),J (.ref T.length),U,J (nv wh),x9,bY,U,U,U,U,U,U])
     ⟨JU wh,[.aT 0 (3*4:Nat) 1],U,U,by rw[aa];rfl,.inl ⟨rfl,λk hk=>cJ hk (fE _)⟩,rfl⟩ (λj w hj e h z=>?_) λe h z=>?_
    .refine bc λkk=>?_;obtain⟨cs,jk,x9,bY,rfl,hcs,rfl⟩:=z;refine kk ?_;clear kk;have sj:(fg (fH n2 (3*4:Nat)+j) (3*4:Nat)).toNat=sk j:=by rw[hsk]
     refine bs (v:=nv (sk j)) (by rw[<- sj];exact sE (uF (x:=.int (fH n2 (3*4:Nat))) (y:=nv j) (z:=.int (fH n2 (3*4:Nat)+j)) (yI (num rfl) ∅ ⋯ ⋯) ∅ rfl) ∅ ⋯) ?_;have fr:db (K0 (d+2)) (.or (.cmp (.abs 14 (.bin .sub (.bin .mod (.loc 10) (.int 3)) (.bin .mod (.loc 8) (.int 3)))) .gt (.int 1)) (.cmp (.abs 14 (.bin .sub (.bin .div (.loc 10) (.int 3)) (.bin .div (.loc 8) (.int 3)))) .gt (.int 1))) [J (nv 3),J (nv 4),J (nv au),J (nv 0),J (.ref np),J (nv (3*4)),J (.ref T.length),U,J (nv wh),J (nv j),J (nv (sk j)),U,U,U,U,U,U] (T++(.list (cs.map nv)::jk)) (.bool (far wh (sk j))) (T++(.list (cs.map nv)::jk)):=
      sQ (Jh (QA (wF ∅ ac ⋯) (wF ∅ ac ⋯)) ac) (Jh (QA (sX ∅ ac ⋯ ⋯) (sX ∅ ac ⋯ ⋯)) ac)
     have nin:db (K0 (d+2)) (.cmp (.int 14) .b7 (.loc 6)) [J (nv 3),J (nv 4),J (nv au),J (nv 0),J (.ref np),J (nv (3*4)),J (.ref T.length),U,J (nv wh),J (nv j),J (nv (sk j)),U,U,U,U,U,U] (T++(.list (cs.map nv)::jk)) (.bool (!cu (14∈cs))) (T++(.list (cs.map nv)::jk)):=by
      refine pF (ac (n:=14)) ∅ ?_;show(pQ _ _ _).bind _=_;rw[io LA,eT];rw[uu];rfl
     refine lv (sP nin fr) bm (λe2=>?_) λe2=>om ⟨cs,jk,J (nv j),J (nv (sk j)),rfl,?_,rfl⟩
     .rw[ax,dg,cF] at e2;obtain⟨e2,e3⟩:=e2;rcases hcs with⟨rfl,_⟩ | ⟨s,s1,_,rfl⟩
      .have ol:(JU wh).length=12:=by unfold JU;rw[cR,eg]
       exact uB ac ∅ ∅ (E0 (by rw[ol];exact sk12 j) (by rw[ol];decide)) (ld (om ⟨_,jk,J (nv j),J (nv (sk j)),rfl,.inr ⟨sk j,sk12 j,e3,rfl⟩,rfl⟩))
      .exact cJ (P8 s1) e2
     .rcases hcs with⟨rfl,h⟩ | h
      .refine .inl ⟨rfl,λk hk=>?_⟩;by_cases ek:k=j
       .rw[ek];rw[cD (Qq wh),Bool.not_false,eU] at e2;exact e2
       .exact h k (by lia)
      .exact .inr h
    .refine bc λkk=>?_;obtain⟨cs,jk,x9,bY,rfl,hcs,rfl⟩:=z;refine kk ?_;clear kk;have tw:∃s,s<12/\far wh s=b9/\cs=RP wh s:=by
      rcases hcs with⟨_,h⟩ | h
      .obtain⟨s,s1,s2⟩:=ez.mp (cN.mp WR wh (cO.mpr w12));have s1:=cO.mp s1;have hk:=h (Int.emod ((s:Int) - fH n2 (3*4:Nat)) 12).toNat (by generalize (s:Int) - fH n2 (3*4:Nat)=z;show(z%12).toNat<12;lia);have es:sk (Int.emod ((s:Int) - fH n2 (3*4:Nat)) 12).toNat=s:=by
        rw[hsk];dsimp only;rw[hH _ ⋯];generalize fH n2 (3*4:Nat)=z;show((z+(((s:Int) - z)%12).toNat)%12).toNat=s;lia
       rw[es,s2] at hk;cases hk
      .exact h
     obtain⟨s,s1,s2,rfl⟩:=tw;have ck:=cN.mp (cN.mp Vi wh (cO.mpr w12)) s (cO.mpr s1);rw[s2,jG,fy] at ck;exact ld (rest _ _ _ _ _ _ (VW bd hs hr (cN.mp ck au (cO.mpr hs))))
end
abbrev qv:=List Nat × Nat × Nat
def El(h:H)(q:Nat)(S:qv):Prop:=∃cq,h[q]? =J (.tup [.ref cq,nv S.2.1,nv S.2.2])/\h[cq]? =J (.list (S.1.map nv))
def wH(h:H):List V->List qv->Prop
 | [],[]=>True
 | v::vs,s::ss=>(∃q,v= .ref q/\El h q s)/\wH h vs ss
 | _,_=>False
theorem El.app{q:Nat}{S:qv}(A:El h q S)(t:H):El (h++t) q S:=by
 obtain⟨cq,h1,h2⟩:=A;exact⟨cq,(ae (f0 h1)).trans h1,(ae (f0 h2)).trans h2⟩
theorem wH.len:∀{vs:List V} {ss:List qv},wH h vs ss->vs.length=ss.length
 | [],[],_=>rfl
 | [],_::_,q=>q.elim
 | _::_,[],q=>q.elim
 | _::_,_::_,q=>cI lU q.2.len
theorem wH.get:∀{vs:List V} {ss:List qv} {i:Nat} {S:qv},wH h vs ss->ss[i]? =J S->∃q,vs[i]? =J (.ref q)/\El h q S
 | [],[],_,_,_,e=>by cases e
 | [],_::_,_,_,q,_=>q.elim
 | _::_,[],_,_,q,_=>q.elim
 | v::vs,s::ss,i,S,q,e=>by
  cases i with
  | zero=>obtain⟨⟨x,h1,h2⟩,_⟩:=q;cases e;exact⟨x,cI J h1,h2⟩
  | succ i=>exact q.2.get e
theorem Q8{k a b:Nat}{l l':List Nat}(g:h[a]? =J (.list (l.map nv)))(g':h[b]? =J (.list (l'.map nv))):vf (k+2) h (.ref a) (.ref b)=J (cu (l=l')):=by
 rw[Ti,g,g'];show(if(l.map nv).length == (l'.map nv).length then qA (vf (k+1) h) (l.map nv) (l'.map nv) else J cj)=_;by_cases e1:l.length=l'.length
 .rw[cG (by simpa using e1)];exact HP e1
 .rw[cH (by simpa using e1)];congr 1;rw[eq_comm,cF];exact λe=>e1 (cI _ e)
theorem Jf{k a b:Nat}{S S':qv}(g:El h a S)(g':El h b S'):vf (k+3) h (.ref a) (.ref b)=J (cu (S=S')):=by
 ext h k a b S S';obtain⟨c,h1,h2⟩:=g;obtain⟨c',h1',h2'⟩:=g';rw[Ti,h1,h1',MF];rw[uM (Q8 h2 h2') (uM Lv (uM Lv rfl))];refine cI J ?_;obtain⟨x,y,z⟩:=S;obtain⟨x',y',z'⟩:=S';rw[de];simp
def w6(S:List qv):List Nat:=((cn (S.length - 1)).filter λi=>cu (S.getD i ([],0,0)=S.getD (S.length - 1) ([],0,0))).map λi=>S.length - 1 - i
def pU(bk:List Nat):Int:=if 1<bk.length then -(bk.getD (bk.length - 1) 0:Int) else if bk.length=1 then(bk.getD 0 0:Int) else 0
theorem Jw:MW bk.reverse=pU bk:=by
 unfold pU
 match bk with
 | []=>rfl
 | [a]=>rfl
 | a::b::l=>
  rw[cG (by simp)];have e:(a::b::l).reverse=(l.reverse++[b])++[a]:=by simp
  cases r:(a::b::l).reverse with
  | nil=>simp at r
  | cons x xs=>
   have hx:(a::b::l).getD ((a::b::l).length - 1) 0=x:=by
    have:(a::b::l)=xs.reverse++[x]:=by rw[<- List.reverse_reverse (a::b::l),r,List.reverse_cons]
    rw[this];simp
   cases xs with
   | nil=>have:=cI List.length r;simp at this
   | cons y ys=>rw[hx];rfl
section
variable{d:Nat}{Q:V->H->Prop}{T:H}{p:Nat}{X:uG}{P:Ps}{ks:List Nat}
theorem Gk{K:pN}(A:db K a e h (.bool s) h1)(B:db K b e h1 (.bool t) h2):db K (.cmp a .ne b) e h (.bool (s != t)) h2:=pF A B rfl
theorem DC{K:pN}{e:nw}{h:H}{c:E}{sa r:Ss}{Q:QS}(A:db K c e h (.bool cj) h)(R:oI K r e h Q):oI K (.cons (.ite c sa .nil) r) e h Q:=lv A rfl (λe=>by cases e) λw=>R
def QG:Ss:=rI 12 wr.body
structure Xj (G:pf) (P:Ps) (ks:List Nat) (bk:List Nat) (aH aD aE aB:Bool):Prop where
 chk:se G P P.au= !aH
 has:AK G P= !aD
 rep:tJ P ks (rS P)=bk.reverse
 aB:LL P ks=aB
 aE:xh G P=aE
def qR(aA:Nat)(bk:List Nat)(aH aD aE:Bool):Nat:=if(aD&&aH)=b9 then 2 else if aD=b9 then 1 else if 100<=aA then 3 else if 1<bk.length then 4 else if aE=b9 then 5 else 0
def rK(aA:Nat)(aH aD:Bool):Bool:=cu (100<=aA)&&(aH|| !aD)
theorem Xj.fifty{ks bk:List Nat}{aH aD aE aB:Bool}(A:Xj G P ks bk aH aD aE aB):D6 G P=rK P.aA aH aD:=by
 unfold D6 Sq rK;rw[A.chk,A.has];cases aH<;>cases aD<;>rfl
theorem Xj.out{ks bk:List Nat}{aH aD aE aB:Bool}(A:Xj G P ks bk aH aD aE aB):Df G P ks=qR P.aA bk aH aD aE:=by
 ext P G ks bk aH aD aE aB;unfold Df qR;rw[A.has,A.chk,A.rep,A.aE,k9];have e:(3<=bk.length+1)↔(1<bk.length):=by lia
 simp only[e];cases aH<;>cases aD<;>simp
theorem IR{aH aD aE aB:Bool}{sp bp cp au az last:Nat}{m:Int}{n0:Nat}(A:At T p X P)(S:HK T P ks)(g:Gd X.G P)(H:Xj X.G P ks bk aH aD aE aB)(hb:T[bp]? =J (.list (bk.map nv)))(bl:bk.length<1000){σ0 t:Mine.Lake.H}(hσ:T=σ0++t)(h0:σ0.length=n0)(hc:o6 n0 σ0)(q:Q (.bool b9) σ0):
  oI (K0 (d+13)) QG [J (.ref p),J (nv F),J (nv R),J (.ref sp),J (.bool aB),J (nv P.aA),J (.int m),J (.ref cp),J (nv au),J (nv az),J (.bool aH),J (.bool aD),J (nv last),J (.ref bp),J (.int (pU bk)),J (.bool aE),J (.bool (rK P.aA aH aD)),J (nv (qR P.aA bk aH aD aE)),U,U,U,U,U,U,U,U,U,U,U,U,U,U] T (qP n0 Q):=by
 revert aH aD aE aB sp bp cp au az last m n0 σ0 t;ext d Q T p X P ks bk;revert σ0 t;ext aH aD aE aB sp bp cp au az last m n0;subst h0;have rl:(tJ P ks (rS P)).length=bk.length:=by rw[H.rep,k9]
 have len:∀{e:nw} {i:Nat},e[13]? =J (J (.ref bp))->db (K0 (d+13)) (.len i (.loc 13)) e T (nv bk.length) T:=λ{e i} l=>by
  have z:=t5 (K:=K0 (d+13)) (i:=i) (a:=.loc 13) (e:=e) (r_loc l) (io hb) (by rw[bj];lia);rw[bj] at z;exact z
 have md:∀{e:nw} {k:Nat},0<k->e[6]? =J (J (.int m))->db (K0 (d+13)) (.bin .mod (.loc 6) (.int (fq k))) e T (nv (fg m k).toNat) T:=λhk l=>sE (r_loc l) ac hk;have k1:=ym (d:=d+11) A S;rw[rl] at k1;have k2:=λm=>tY (d:=d+10) (m:=m) A S;rw[rl] at k2;have k3:=ti (d:=d+11) A S;rw[H.rep,Jw] at k3;have k4:=DG (d:=d+11) A S;rw[H.aB] at k4;have k5:=sV (d:=d+10) A;rw[H.aE] at k5;have k6:=II (d:=d) A S g;have e6:R8 X.G P ks=(aE||(cu (1<bk.length)||rK P.aA aH aD)):=by
  unfold R8;rw[H.aE,H.fifty,rl];have:cu (3<=bk.length+1)=cu (1<bk.length):=by rw[de];simp only[cA];lia
  rw[this]
 rw[e6] at k6;have k7:=λm=>FX (d:=d) (m:=m) A S g;have e7:∀m,MU X.G P ks m=(rK P.aA aH aD||(cu (pU bk≠0)&&cu (pU bk<(m:Int)))):=λm=>by
  unfold MU;rw[H.fifty,H.rep,Jw];cases rK P.aA aH aD<;>rfl
 have k8:=AR (d:=d+2) A S g;rw[H.out] at k8;have pe:∀{e:nw},e[0]? =J (J (.ref p))->F7 (K0 (d+13)) (.cons (.loc 0) .nil) e T [.ref p] T:=λl=>be (r_loc l) f8;refine DC (by
  have z1:=tP (K:=K0 (d+13)) (bi (i:=23) (pe (e:=[J (.ref p),J (nv F),J (nv R),J (.ref sp),J (.bool aB),J (nv P.aA),J (.int m),J (.ref cp),J (nv au),J (nv az),J (.bool aH),J (.bool aD),J (nv last),J (.ref bp),J (.int (pU bk)),J (.bool aE),J (.bool (rK P.aA aH aD)),J (nv (qR P.aA bk aH aD aE)),U,U,U,U,U,U,U,U,U,U,U,U,U,U]) rfl) k1) (len (i:=18) rfl);have z2:=Gk (K:=K0 (d+13)) (bi (i:=24) (be (r_loc (i:=0) (e:=[J (.ref p),J (nv F),J (nv R),J (.ref sp),J (.bool aB),J (nv P.aA),J (.int m),J (.ref cp),J (nv au),J (nv az),J (.bool aH),J (.bool aD),J (nv last),J (.ref bp),J (.int (pU bk)),J (.bool aE),J (.bool (rK P.aA aH aD)),J (nv (qR P.aA bk aH aD aE)),U,U,U,U,U,U,U,U,U,U,U,U,U,U]) rfl) (be (md (k:=5) ⋯ rfl) f8)) (k2 _)) (Kb (qK (len (i:=18) rfl) (ac (n:=1))) (md (k:=5) ⋯ rfl));have z:=sQ z1 z2;rw[cD (λh:bk.length≠bk.length=>h rfl),bne_self_eq_false] at z;exact z) ?_
 refine DC (by
  have z1:=pF (K:=K0 (d+13)) (co:=.ne) (t:=cj) (bi (i:=25) (pe (e:=[J (.ref p),J (nv F),J (nv R),J (.ref sp),J (.bool aB),J (nv P.aA),J (.int m),J (.ref cp),J (nv au),J (nv az),J (.bool aH),J (.bool aD),J (nv last),J (.ref bp),J (.int (pU bk)),J (.bool aE),J (.bool (rK P.aA aH aD)),J (nv (qR P.aA bk aH aD aE)),U,U,U,U,U,U,U,U,U,U,U,U,U,U]) rfl) k3) (r_loc (i:=14) (v:=.int (pU bk)) rfl) (by show J (pU bk != pU bk)=_;rw[bne_self_eq_false]);have z2:=Gk (K:=K0 (d+13)) (bi (i:=26) (pe (e:=[J (.ref p),J (nv F),J (nv R),J (.ref sp),J (.bool aB),J (nv P.aA),J (.int m),J (.ref cp),J (nv au),J (nv az),J (.bool aH),J (.bool aD),J (nv last),J (.ref bp),J (.int (pU bk)),J (.bool aE),J (.bool (rK P.aA aH aD)),J (nv (qR P.aA bk aH aD aE)),U,U,U,U,U,U,U,U,U,U,U,U,U,U]) rfl) k4) (r_loc (i:=4) rfl);have z:=sQ z1 z2;rw[bne_self_eq_false] at z;exact z) ?_
 refine DC (by
  have z1:=Gk (K:=K0 (d+13)) (bi (i:=27) (pe (e:=[J (.ref p),J (nv F),J (nv R),J (.ref sp),J (.bool aB),J (nv P.aA),J (.int m),J (.ref cp),J (nv au),J (nv az),J (.bool aH),J (.bool aD),J (nv last),J (.ref bp),J (.int (pU bk)),J (.bool aE),J (.bool (rK P.aA aH aD)),J (nv (qR P.aA bk aH aD aE)),U,U,U,U,U,U,U,U,U,U,U,U,U,U]) rfl) k5) (r_loc (i:=15) rfl);have z2:=Gk (K:=K0 (d+13)) (bi (i:=28) (pe (e:=[J (.ref p),J (nv F),J (nv R),J (.ref sp),J (.bool aB),J (nv P.aA),J (.int m),J (.ref cp),J (nv au),J (nv az),J (.bool aH),J (.bool aD),J (nv last),J (.ref bp),J (.int (pU bk)),J (.bool aE),J (.bool (rK P.aA aH aD)),J (nv (qR P.aA bk aH aD aE)),U,U,U,U,U,U,U,U,U,U,U,U,U,U]) rfl) k6) (sQ (r_loc (i:=15) rfl) (sQ (Jh (len (i:=18) rfl) (ac (n:=1))) (r_loc (i:=16) rfl)));have z:=sQ z1 z2;rw[bne_self_eq_false,bne_self_eq_false] at z;exact z) ?_
 refine DC (by
  have k7:=k7 (fg m 11).toNat;rw[e7] at k7;have aI:∀{e:nw},e[14]? =J (J (.int (pU bk)))->e[6]? =J (J (.int m))->db (K0 (d+13)) (.and (.cmp (.loc 14) .ne (.int 0)) (.cmp (.loc 14) .lt (.bin .mod (.loc 6) (.int 11)))) e T (.bool (cu (pU bk≠0)&&cu (pU bk<((fg m 11).toNat:Int)))) T:=λl1 l2=>
   sP (pF (r_loc l1) qI (by
    show J (pU bk != 0)=_;congr 1;rw[de];simp)) (pF (r_loc l1) (md (k:=11) ⋯ l2) rfl)
  have z:=Gk (K:=K0 (d+13)) (bi (i:=29) (be (r_loc (i:=0) (e:=[J (.ref p),J (nv F),J (nv R),J (.ref sp),J (.bool aB),J (nv P.aA),J (.int m),J (.ref cp),J (nv au),J (nv az),J (.bool aH),J (.bool aD),J (nv last),J (.ref bp),J (.int (pU bk)),J (.bool aE),J (.bool (rK P.aA aH aD)),J (nv (qR P.aA bk aH aD aE)),U,U,U,U,U,U,U,U,U,U,U,U,U,U]) rfl) (be (md (k:=11) ⋯ rfl) f8)) k7) (sQ (r_loc (i:=16) rfl) (aI rfl rfl));rw[bne_self_eq_false] at z;exact z) ?_
 have z:=oQ (K:=K0 (d+13)) (bi (i:=30) (pe (e:=[J (.ref p),J (nv F),J (nv R),J (.ref sp),J (.bool aB),J (nv P.aA),J (.int m),J (.ref cp),J (nv au),J (nv az),J (.bool aH),J (.bool aD),J (nv last),J (.ref bp),J (.int (pU bk)),J (.bool aE),J (.bool (rK P.aA aH aD)),J (nv (qR P.aA bk aH aD aE)),U,U,U,U,U,U,U,U,U,U,U,U,U,U]) rfl) k8) (r_loc (i:=17) (v:=nv (qR P.aA bk aH aD aE)) rfl);rw[cC (p:=qR P.aA bk aH aD aE=qR P.aA bk aH aD aE) rfl] at z;subst hσ;exact xX z hc trivial q λw w z=>z
theorem vN:((cn (j+1)).filter f).map g=((cn j).filter f).map g++if f j=b9 then[g j] else[]:=by
 rw[vV,dR];split<;>rfl
theorem Tz{K:pN}{e:nw}{h h1:Mine.Lake.H}{it test elt:E}{i n:Nat}{v:V}{f:Nat->Bool}(M:K.aV)(A:db K it e h v h1)(l:Fm K h1 v=J (.aT ((0:Nat):Int) (n:Int) 1))(hn:n<1000)(tst:∀j,j<n->∀t,db K test (e.set i (J (nv j))) (h1++t) (.bool (f j)) (h1++t))(el:∀j,j<n->∀t,db K elt (e.set i (J (nv j))) (h1++t) (nv (g j)) (h1++t)):db K (.comp elt i it test) e h (.ref h1.length) (h1++[.list ((((cn n).filter f).map g).map nv)]):=
 Ff M A l n (λj h=>h=h1++[.list ((((cn j).filter f).map g).map nv)]) rfl (λj hj h q=>by
  subst q;have ri:=tN (K:=K) (h:=h1++[.list ((((cn j).filter f).map g).map nv)]) (x:=v) (n:=0) (m:=n) (j:=j) (N:=n) (d6 _);rw[cG hj,d6] at ri;refine⟨nv j,_,f j,_,ri,tst j hj _,rfl,λe1=>⟨_,_,_,el j hj _,zn (t:=[]) (by
   rw[bj,bj];have:=eV f (cn j);rw[dv] at this;lia),?_⟩,λe1=>?_⟩
  .rw[vN,cG e1,dR];rfl
  .rw[vN,cH (by rw[e1];decide),cP]) λh q=>by
  subst q;have ri:=tN (K:=K) (h:=h1++[.list ((((cn n).filter f).map g).map nv)]) (x:=v) (n:=0) (m:=n) (j:=n) (N:=n) (d6 _);rw[cH (eZ _)] at ri;exact⟨ri,rfl⟩
theorem Np{K:pN}{h:H}{W:Option (Nat × Nat)}{q wp:Nat}(g:h[wp]? =J (AZ W))(g0:h[q]? =J (.tup [])):th K .eq (.ref wp) (.ref q) h=J W.isNone:=by
 rw[UT,g,g0];cases W<;>rfl
theorem Hi{sp cp au az:Nat}{m:Int}{aB:Bool}{aS:List Nat}{vs:List V}{SS:List qv}(A:At T p X P)(S:HK T P ks)(g:Gd X.G P)(hL:CL F R aS)(hp:Br F R aS)(hk:Do F R aS au)(hi:au*8+6∈aS)(hs:au<2)(Ls:T[sp]? =J (.list vs))(St:wH T vs SS)(hl:0<SS.length)(hl2:SS.length<100)(hlast:SS[SS.length - 1]? =J (aS,au,az))(H:Xj X.G P ks (w6 SS) (tL F R aS (aS.idxOf (au*8+6)) au) (w8 F R aS au 0).isNone (vC F aS) aB):
  ii (K0 (d+14)) 905 [.ref p,nv F,nv R,.ref sp,.bool aB,nv P.aA,.int m] T (.bool b9) T:=by
 revert sp cp au az m aB aS vs SS;ext d T p X P ks;ext sp cp au az m aB aS vs SS;exact mk (λQ=>HV rfl) λQ q hc=>by
   have vl:=St.len;refine bc λkk=>?_;obtain⟨q0,g0,cq,g1,g2⟩:=St.get hlast;refine kk ?_;clear kk;have hsz:=hL.bd.sz;have hcl:=hL.l;have sget:∀{e:nw} {t:Mine.Lake.H},e[3]? =J (J (.ref sp))->db (K0 (d+13)) (.bin .sub (.len 18 (.loc 3)) (.int 1)) e (T++t) (nv (SS.length - 1)) (T++t):=λ{e t} l=>by
    have z:=t5 (K:=K0 (d+13)) (i:=18) (a:=.loc 3) (h:=T++t) (e:=e) (r_loc l) (io ((ae (f0 Ls)).trans Ls)) (by lia);rw[vl] at z;exact oM z ac hl
   have sg0:=λ{e:nw} (l:e[3]? =J (J (.ref sp)))=>sget (e:=e) (t:=[]) l;simp only[cP] at sg0;refine Ax (vs:=[.ref cq,nv au,nv az]) (pz ∅ (sg0 rfl) (io Ls) g0 (by lia)) g1 rfl ?_;have hkq:∀{e:nw},e[8]? =J (J (nv au))->db (K0 (d+13)) (.bin .add (.bin .mul (.loc 8) (.int 8)) (.int 6)) e T (nv (au*8+6)) T:=λl=>qK (sr (r_loc l) ac (by lia) ⋯) ac;refine bs (bi (lc rfl (lc rfl (lc rfl (be (Io ∅ g2 (hkq rfl) hi (by show aS.length<=1000;lia)) (lz rfl))))) (yM (d:=d+11) hL g2)) ?_;obtain⟨aH,hsafe⟩:=(⟨_,rfl⟩:∃aH,aH=tL F R aS (aS.idxOf (au*8+6)) au)
   obtain⟨pk,hpk⟩:=(⟨_,rfl⟩:∃pk,pk=w8 F R aS au 0)
   have kp:=DK (d:=d+9) hL hp hk g2 (o8:=0);rw[<- hpk] at kp H;rw[<- hsafe] at H ⊢;refine bs (v:=.bool pk.isNone) (h1:=T++([AZ pk]++[.tup []])) (by
    rw[<- aa];exact pF (bi (lc rfl (lc rfl (lc rfl (lc rfl (be qI f8))))) kp) (sZ f8 (dH _)) (Np ((ae (by simp)).trans bn) bn)) ?_
   obtain⟨t1,ht1⟩:=(⟨_,rfl⟩:∃t1,t1=[AZ pk]++[O.tup []])
   rw[<- ht1];refine bs (sget rfl) ?_;obtain⟨bk,hbk⟩:=(⟨_,rfl⟩:∃bk,bk=w6 SS)
   have stq:∀{t:Mine.Lake.H} {j:Nat},j<SS.length->∃qj,vs[j]? =J (.ref qj)/\El (T++t) qj (SS.getD j ([],0,0)):=λ{t j} hj=>by
    have:SS[j]? =J (SS.getD j ([],0,0)):=by rw[ba,a7 hj];rfl
    obtain⟨qj,h1,h2⟩:=St.get this;exact⟨qj,h1,h2.app t⟩
   refine bs (v:=.ref (T++t1++[O.aT ((0:Nat):Int) ((SS.length - 1:Nat):Int) 1]).length) (h1:=(T++t1++[O.aT ((0:Nat):Int) ((SS.length - 1:Nat):Int) 1])++[.list (bk.map nv)]) (by
    rw[hbk];unfold w6;refine Tz (h1:=T++t1++[O.aT ((0:Nat):Int) ((SS.length - 1:Nat):Int) 1]) (lw _) (qd (lz rfl) (by lia)) (by
     simp only[Fm,tS,bn,rC (n:=SS.length - 1) (by lia)];rfl) (by lia) (λj hj t=>?_) λj hj t=>oM ∅ ∅ (by lia)
    refine bc λkk=>?_;obtain⟨qj,h1,h2⟩:=stq (t:=t1++[O.aT ((0:Nat):Int) ((SS.length - 1:Nat):Int) 1]++t) (j:=j) (by lia);obtain⟨ql,h3,h4⟩:=stq (t:=t1++[O.aT ((0:Nat):Int) ((SS.length - 1:Nat):Int) 1]++t) (j:=SS.length - 1) (by lia);refine kk ?_;clear kk;have Ls':(T++t1++[O.aT ((0:Nat):Int) ((SS.length - 1:Nat):Int) 1]++t)[sp]? =J (.list vs):=by
     rw[aa,aa,ae (f0 Ls)];exact Ls
    rw[<- aa,<-aa] at h2 h4;exact pF (pz ∅ ∅ (io Ls') h1 (by lia)) (pz ∅ ∅ (io Ls') h3 (by lia)) (Jf (k:=1) h2 h4)) ?_
   rw[<- hbk] at H;have bl:bk.length<100:=by
    rw[hbk];unfold w6;rw[bj];have:=eV (λi=>cu (SS.getD i ([],0,0)=SS.getD (SS.length - 1) ([],0,0))) (cn (SS.length - 1));rw[dv] at this;lia
   obtain⟨t2,ht2⟩:∃t2,(T++t1++[O.aT ((0:Nat):Int) ((SS.length - 1:Nat):Int) 1])++[.list (bk.map nv)]=T++t2:=⟨t1++[O.aT ((0:Nat):Int) ((SS.length - 1:Nat):Int) 1]++[.list (bk.map nv)],by simp⟩
   obtain⟨bp,hbp⟩:=(⟨_,rfl⟩:∃bp,bp=(T++t1++[O.aT ((0:Nat):Int) ((SS.length - 1:Nat):Int) 1]).length)
   have Lb:(T++t2)[bp]? =J (.list (bk.map nv)):=by rw[<- ht2,hbp];exact bn
   rw[<- hbp,ht2];clear hbp ht2;have len:∀{e:nw} {i:Nat},e[13]? =J (J (.ref bp))->db (K0 (d+13)) (.len i (.loc 13)) e (T++t2) (nv bk.length) (T++t2):=λ{e i} l=>by
    have z:=t5 (K:=K0 (d+13)) (i:=i) (a:=.loc 13) (e:=e) (r_loc l) (io Lb) (by rw[bj];lia);rw[bj] at z;exact z
   have A2:=A.app t2;have S2:=S.app t2;have aE:=KG (d:=d+12) hL (T:=T++t2) (cp:=cq) ((ae (f0 g2)).trans g2);have fin:∀n,n=qR P.aA bk aH pk.isNone (vC F aS)->oI (K0 (d+13)) QG [J (.ref p),J (nv F),J (nv R),J (.ref sp),J (.bool aB),J (nv P.aA),J (.int m),J (.ref cq),J (nv au),J (nv az),J (.bool aH),J (.bool pk.isNone),J (nv (SS.length - 1)),J (.ref bp),J (.int (pU bk)),J (.bool (vC F aS)),J (.bool (rK P.aA aH pk.isNone)),J (nv n),U,U,U,U,U,U,U,U,U,U,U,U,U,U] (T++t2) (qP T.length Q):=
    λn hn=>by
     rw[hn];exact IR A2 S2 g H Lb (by lia) rfl rfl hc q
   have aI:oI (K0 (d+13)) (rI 8 wr.body) [J (.ref p),J (nv F),J (nv R),J (.ref sp),J (.bool aB),J (nv P.aA),J (.int m),J (.ref cq),J (nv au),J (nv az),J (.bool aH),J (.bool pk.isNone),J (nv (SS.length - 1)),J (.ref bp),J (.int (pU bk)),U,U,U,U,U,U,U,U,U,U,U,U,U,U,U,U,U] (T++t2) (qP T.length Q):=by
    refine bs (bi (lc rfl (lz rfl)) aE) (bs (v:=.bool (rK P.aA aH pk.isNone)) (sP (Kb ∅ (ac (n:=100))) (sQ ∅ (ux (x:=.bool pk.isNone) ∅ bm))) (bs ac ?_));refine uJ (sP (s:=pk.isNone) (t:=aH) ∅ ∅) bm (λe1=>bs ac (ld (fin 2 ?_))) λe1=>?_
    .unfold qR;rw[cG e1]
    have st1:qR P.aA bk aH pk.isNone (vC F aS)=if pk.isNone=b9 then 1 else if 100<=P.aA then 3 else if 1<bk.length then 4 else if vC F aS=b9 then 5 else 0:=by unfold qR;rw[cH (by rw[e1];decide)]
    rw[st1] at fin;refine uJ ∅ bm (λe2=>bs ac (ld (ld (fin 1 ?_)))) λe2=>?_
    .rw[cG e2]
    rw[cH (by rw[e2];decide)] at fin;refine uJ (Kb ∅ (ac (n:=100))) bm (λe3=>bs ac (ld (ld (ld (fin 3 ?_))))) λe3=>?_
    .rw[cG (cy e3)]
    rw[cH (cz e3)] at fin;refine uJ (Jh (len rfl) (ac (n:=1))) bm (λe4=>bs ac (ld (ld (ld (ld (fin 4 ?_)))))) λe4=>?_
    .rw[cG (cy e4)]
    rw[cH (cz e4)] at fin;refine lv ∅ bm (λe5=>bs ac (ld (ld (ld (ld (ld (fin 5 ?_))))))) λe5=>ld (ld (ld (ld (fin 0 ?_))))
    .rw[cG e5]
    .rw[cH (by rw[e5];decide)]
   refine bs ac (lv (oQ (len rfl) (ac (n:=1))) bm (λe1=>?_) λe1=>?_)
   .have e1:=cy e1;refine bs (v:=nv (bk.getD 0 0)) (tT Lb ∅ (ac (n:=0)) (by lia) (by lia)) (ld (lv (Jh (len rfl) (ac (n:=1))) bm (λe2=>cJ (cy e2) (by lia)) λe2=>?_));have nl:nv (bk.getD 0 0)= .int (pU bk):=by unfold pU;rw[cH (by lia),cG e1];rfl
    rw[nl];exact aI
   .have e1:=cz e1;refine lv (Jh (len rfl) (ac (n:=1))) bm (λe2=>?_) λe2=>?_
    .have e2:1<bk.length:=cy e2;refine bs (v:=.int (pU bk)) ?_ (ld aI);have nl:pU bk=-(bk.getD (bk.length - 1) 0:Int):=by unfold pU;rw[cG e2]
     rw[nl];exact zl (tT Lb ∅ (oM (len rfl) (ac (n:=1)) (by lia)) (by lia) (by lia))
    .have e2:=cz e2;have nl:nv 0= .int (pU bk):=by unfold pU;rw[cH e2,cH e1];rfl
     rw[show V.int (pU bk)=nv 0 from nl.symm] at aI;exact aI
end
abbrev pV(F R:Nat)(cs:List Nat)(s t:Nat):Prop:=cs.getD s 0%8=1/\(t/F=0\/t/F=R - 1)
def li(F R:Nat)(cs:List Nat)(s t pr:Nat):List Nat:=if pV F R cs s t then(oz cs s t).set t (cs.getD s 0/8*8+2+pr) else oz cs s t
def Oz(s t:Nat):Nat:=t ||| s <<< 6
def Yd(s t pr:Nat):Nat:=Oz s t ||| (1 <<< 14 ||| pr <<< 12)
theorem aac:((cn 21).all λs=>(cn 21).all λt=>cu (qW (Oz s t)=s/\qG (Oz s t)=t/\u0 (Oz s t)=0)&&(cn 4).all λpr=>cu (qW (Yd s t pr)=s/\qG (Yd s t pr)=t/\u0 (Yd s t pr)=1/\PC (Yd s t pr)=pr+2))=b9:=by decide +kernel
def y7(F R:Nat)(cs:List Nat)(s t pr:Nat):Nat:=if pV F R cs s t then Yd s t pr else Oz s t
theorem RQ(hs:s<21)(ht:t<21)(hp:pr<4):qW (y7 F R cs s t pr)=s/\qG (y7 F R cs s t pr)=t/\u0 (y7 F R cs s t pr)=(if pV F R cs s t then 1 else 0)/\(pV F R cs s t->PC (y7 F R cs s t pr)=pr+2):=by
 ext s t pr cs;have z:=cN.mp (cN.mp aac s (cO.mpr hs)) t (cO.mpr ht);rw[ax,cA] at z;have z2:=cy (cN.mp z.2 pr (cO.mpr hp));unfold y7;by_cases h:pV F R cs s t
 .rw[cG h,cG h];exact⟨z2.1,z2.2.1,z2.2.2.1,λw=>z2.2.2.2⟩
 .rw[cH h,cH h];exact⟨z.1.1,z.1.2.1,z.1.2.2,λh'=>cJ h' h⟩
abbrev vk(cs:List Nat)(s t:Nat):Prop:=cs.getD t 0=0/\cs.getD s 0%8≠1
def sJ(cs:List Nat)(s t aA:Nat):Nat:=if vk cs s t then aA+1 else 0
def pM(n:Nat)(S:qv)(aA av:Nat)(ay:List V):Ps:=oj n S.1 S.2.1 S.2.2 aA av (sR n S.2.1 S.2.2) ay
structure H5 (F R:Nat) (S:qv) (s t:Nat):Prop where
 m:(s,t)∈rd F R S.1 S.2.1
 f:tf F R S.1 s t=b9
def rG(F R:Nat)(S:qv)(s t pr:Nat):qv:=(li F R S.1 s t pr,1 - S.2.1,sU F R (li F R S.1 s t pr) S.2.2 4)
inductive uZ (F R:Nat) (S0:qv) (h0:Nat):List qv->Nat->Nat->Bool->Prop
 | base:uZ F R S0 h0 [S0] h0 0 cj
 | step {SS:List qv} {aA aC:Nat} {aB:Bool} {S:qv} {s t pr:Nat} (C:uZ F R S0 h0 SS aA aC aB) (l:SS.getLast? =J S) (L:H5 F R S s t) (hp:pr<4):
  uZ F R S0 h0 (SS++[rG F R S s t pr]) (sJ S.1 s t aA) (if vk S.1 s t then aC else SS.length)
   ((if vk S.1 s t then aB else cj)||decide (rG F R S s t pr∈SS.drop (if vk S.1 s t then aC else SS.length)))
def yR(n:Nat)(S:qv):Nat:=Ac n S.1 ^^^ sR n S.2.1 S.2.2
structure PL (F R:Nat) (c:Bool):Prop where
 gd:∀(S:qv) (aA av:Nat) (ay:List V),Gp F R S.1 S.2.1 S.2.2->Gd (dL F R c) (pM (F*R) S aA av ay)
 chk:∀(S:qv) (aA av:Nat) (ay:List V),Gp F R S.1 S.2.1 S.2.2->se (dL F R c) (pM (F*R) S aA av ay) S.2.1= !tL F R S.1 (S.1.idxOf (S.2.1*8+6)) S.2.1
 has:∀(S:qv) (aA av:Nat) (ay:List V),Gp F R S.1 S.2.1 S.2.2->AK (dL F R c) (pM (F*R) S aA av ay)= !(w8 F R S.1 S.2.1 0).isNone
 aE:∀(S:qv) (aA av:Nat) (ay:List V),Gp F R S.1 S.2.1 S.2.2->xh (dL F R c) (pM (F*R) S aA av ay)=vC F S.1
 bV:∀S:qv,Gp F R S.1 S.2.1 S.2.2->Do F R S.1 S.2.1
 step:∀(S:qv) (s t pr:Nat),Gp F R S.1 S.2.1 S.2.2->H5 F R S s t->pr<4->Gp F R (rG F R S s t pr).1 (rG F R S s t pr).2.1 (rG F R S s t pr).2.2
 kept:∀(S:qv) (s t pr aA av:Nat) (ay:List V),Gp F R S.1 S.2.1 S.2.2->H5 F R S s t->pr<4->xC (dL F R c) (pM (F*R) S aA av ay) s t=(rG F R S s t pr).2.2
 far:∀(S:qv) (s t:Nat),Gp F R S.1 S.2.1 S.2.2->H5 F R S s t->S.1.getD s 0%8=1->(t:Int) - s≠2*F/\(s:Int) - t≠2*F
 other:∀(S:qv) (s t:Nat),Gp F R S.1 S.2.1 S.2.2->H5 F R S s t->S.1.getD t 0≠0->S.1.getD t 0/8≠S.2.1
 rep:∀(S0:qv) (h0:Nat) (SS:List qv) (aA aC:Nat) (aB:Bool) (S:qv) (av:Nat) (ay:List V),Gp F R S0.1 S0.2.1 S0.2.2->uZ F R S0 h0 SS aA aC aB->SS.getLast? =J S->ay.length+1=SS.length->
  tJ (pM (F*R) S aA av ay) (SS.dropLast.map (yR (F*R))) (rS (pM (F*R) S aA av ay))=(w6 SS).reverse/\LL (pM (F*R) S aA av ay) (SS.dropLast.map (yR (F*R)))=aB
section
variable{s t pr aA av q:Nat}{S:qv}{ay:List V}
theorem Gp.pc(g:Gp F R cs au az)(h:cs.getD i 0≠0):vb (cs.getD i 0):=by
 have v:=g.cg.cl.v i;rcases g.cg.pv i with z | z
 .exact cJ z h
 .exact⟨by lia,by rw[IQ];lia⟩
theorem Dd(hs:sd<2)(hp:pr<4):vb (sd*8+(pr+2)):=by
 ext sd pr;refine⟨by lia,?_⟩;rw[IQ];lia
structure Zg (F R:Nat) (S:qv) (s t:Nat):Prop where
 ls:s<F*R
 lt:t<F*R
 ne:s≠t
 own:S.1.getD s 0≠0/\S.1.getD s 0/8=S.2.1
 mem:t∈ou F R S.1 s
theorem yK(pl:PL F R cc)(g:Gp F R S.1 S.2.1 S.2.2)(L:H5 F R S s t):Zg F R S s t:=by
 ext s t S;obtain⟨h1,h2,h3,h4⟩:=rE.mp L.m;have h1:s<S.1.length:=h1;rw[g.cg.cl.l] at h1;have h2:S.1.getD s 0≠0:=h2;refine⟨h1,qL g.cg.cl g.cg.pw h1 h4,λe=>?_,⟨h2,h3⟩,h4⟩;subst e;exact pl.other S s s g L h2 h3
theorem TM(hs:sd<2):sR n sd r ^^^ (1 <<< (15*n+r) ^^^ 1 <<< (15*n+r')) ^^^ 1 <<< (15*n+16)=sR n (1 - sd) r':=by
 unfold sR;generalize 1 <<< (15*n+r)=a;generalize 1 <<< (15*n+r')=b;generalize 1 <<< (15*n+16)=e;rcases (u2 (by assumption:sd<2)) with h | h<;>subst h
 .rw[cH ⋯,cG ⋯,iM,<-eh a a b,ji,j8]
 .rw[cG rfl,cH ⋯,iM];rw[jl a e,eh e a,<-eh a a b,ji,j8,jl e b,eh,ji,iM]
theorem z6{l:List Nat}(h:l.length=n):(l.set i x).length=n:=by rw[cR];exact h
theorem US(pl:PL F R cc)(g:Gp F R S.1 S.2.1 S.2.2)(L:H5 F R S s t)(hp:pr<4):doP (dL F R cc) (pM (F*R) S aA av ay) (y7 F R S.1 s t pr) q=
  pM (F*R) (rG F R S s t pr) (sJ S.1 s t aA) (if S.2.1=1 then av+1 else av) (ay++[.ref q]):=by
 ext s t pr aA av q S ay;obtain⟨ls,lt,ne,own,gm⟩:=yK pl g L;have hsz:=g.cg.cl.bd.sz;have hl:=g.cg.cl.l;obtain⟨m1,m2,m3,m4⟩:=RQ (cs:=S.1) (s:=s) (t:=t) (pr:=pr) (by lia) (by lia) hp;have kp:=pl.kept S s t pr aA av ay g L hp;have hG:(dL F R cc).size=F*R:=rfl;have hs2:=g.sd;have pcs:=g.pc own.1;unfold doP;rw[m1,m2,m3];have hb:(pM (F*R) S aA av ay).board=S.1:=rfl;have aX:(pM (F*R) S aA av ay).au=S.2.1:=rfl;rw[hb,aX,kp];obtain⟨cs1,hc1⟩:=(⟨_,rfl⟩:∃cs1,cs1=S.1.set t 0)
 ext cs1;have e1:takeH (dL F R cc) (Fo (pM (F*R) S aA av ay) q) (S.1.getD t 0) t=oj (F*R) cs1 S.2.1 S.2.2 (if S.1.getD t 0≠0 then 0 else aA+1) av (sR (F*R) S.2.1 S.2.2) (ay++[.ref q]):=by
  unfold takeH;have lg:Fo (pM (F*R) S aA av ay) q=oj (F*R) S.1 S.2.1 S.2.2 (aA+1) av (sR (F*R) S.2.1 S.2.2) (ay++[.ref q]):=rfl;by_cases h0:S.1.getD t 0=0
  .rw[cH (λz=>z h0),cH (λz=>z h0),lg,hc1];have:S.1.set t 0=S.1:=pH rfl (λw=>h0) λw w=>rfl;rw[this]
  .rw[cG h0,cG h0,lg,Dg hG lt hl (g.pc h0) h0 rfl,hc1];rfl
 rw[e1];have cl1:cs1.length=F*R:=by rw[hc1];exact z6 hl
 have c1t:cs1.getD t 0=0:=by rw[hc1];exact oB (by lia)
 have c1s:cs1.getD s 0=S.1.getD s 0:=by rw[hc1];exact im s ne
 have e2:qS (dL F R cc) (oj (F*R) cs1 S.2.1 S.2.2 (if S.1.getD t 0≠0 then 0 else aA+1) av (sR (F*R) S.2.1 S.2.2) (ay++[.ref q])) (S.1.getD s 0) (if pV F R S.1 s t then 1 else 0) (S.2.1*8+PC (y7 F R S.1 s t pr)) s t=
   oj (F*R) (li F R S.1 s t pr) S.2.1 S.2.2 (if S.1.getD t 0≠0 then 0 else aA+1) av (sR (F*R) S.2.1 S.2.2) (ay++[.ref q]):=by
  unfold qS li;by_cases hpr:pV F R S.1 s t
  .rw[cG hpr,cG rfl,cG hpr,m4 hpr,Dg hG ls cl1 pcs own.1 c1s,Dc hG lt (z6 cl1) (Dd hs2 hp) (by lia) (by rw[im t (dT ne)];exact c1t)];congr 1;refine pH ?_ (λw=>?_) λi hi=>?_
   .rw[hc1];simp [oz]
   .rw[own.2,oB (by unfold oz;simp;lia)];lia
   .rw[im i hi];unfold oz;rw[hc1];by_cases e:i=s
    .subst e;rw[oB (by simp;lia),oB (by simp;lia)]
    .rw[im i e,im i e,im i hi,im i hi]
  .rw[cH hpr,cH ⋯,cH hpr,Gf hG ls lt ne cl1 pcs own.1 c1s c1t];congr 1;refine pH ?_ (λw=>?_) λi hi=>?_
   .rw[hc1];simp [oz]
   .unfold oz;rw[im t (dT ne),oB (by lia)]
   .unfold oz;rw[hc1];by_cases e:i=s
    .subst e;rw[oB (by simp;lia),oB (by simp;lia)]
    .rw[im i e,im i e,im i hi,im i hi]
 rw[e2];have e3:wI (oj (F*R) (li F R S.1 s t pr) S.2.1 S.2.2 (if S.1.getD t 0≠0 then 0 else aA+1) av (sR (F*R) S.2.1 S.2.2) (ay++[.ref q])) (S.1.getD s 0)=oj (F*R) (li F R S.1 s t pr) S.2.1 S.2.2 (sJ S.1 s t aA) av (sR (F*R) S.2.1 S.2.2) (ay++[.ref q]):=by
  unfold wI;rw[IQ];by_cases h1:S.1.getD s 0%8=1
  .have hh:sJ S.1 s t aA=0:=cH λz=>z.2 h1;rw[cG h1,hh];rfl
  .rw[cH h1];by_cases h0:S.1.getD t 0=0
   .have hh:sJ S.1 s t aA=aA+1:=cG ⟨h0,h1⟩;rw[cH (λz=>z h0),hh]
   .have hh:sJ S.1 s t aA=0:=cH λz=>h0 z.1;rw[cG h0,hh]
 rw[e3];unfold Ps.setR PO F8 pM;have kn:=TM (n:=F*R) (r:=S.2.2) (r':=(rG F R S s t pr).2.2) hs2;have e4:∀a b x y:Nat,a ^^^ b ^^^ x ^^^ y=a ^^^ (b ^^^ x ^^^ y):=λa b x y=>by rw[eh,eh,<-eh b]
 by_cases h1:S.2.1=1
 .rw[cG h1,cG h1];unfold oj;dsimp only;rw[hG,e4,kn];rfl
 .rw[cH h1,cH h1];unfold oj;dsimp only;rw[hG,e4,kn];rfl
theorem Hg(pl:PL F R cc)(g:Gp F R S.1 S.2.1 S.2.2)(L:H5 F R S s t)(hp:pr<4):qW (y7 F R S.1 s t pr)=s/\qG (y7 F R S.1 s t pr)=t/\u0 (y7 F R S.1 s t pr)=(if pV F R S.1 s t then 1 else 0)/\(pV F R S.1 s t->PC (y7 F R S.1 s t pr)=pr+2):=by
 obtain⟨ls,lt,_,_,_⟩:=yK pl g L;have hsz:=g.cg.cl.bd.sz;exact RQ (by lia) (by lia) hp
theorem Wy(pl:PL F R cc)(g:Gp F R S.1 S.2.1 S.2.2)(L:H5 F R S s t)(hp:pr<4)(hh:ay.length<900):Xk (dL F R cc) (pM (F*R) S aA av ay) (y7 F R S.1 s t pr):=by
 ext s t pr aA av S ay;obtain⟨ls,lt,ne,own,gm⟩:=yK pl g L;obtain⟨m1,m2,m3,m4⟩:=Hg pl g L hp;have far:=pl.far S s t g L;refine⟨CY g.cg.cl.l rfl,by rw[m1];exact ls,by rw[m2];exact lt,by rw[m1,m2];exact ne,by rw[m1];exact g.pc own.1,by rw[m1];exact⟨own.1,(Q1 _).trans own.2⟩,λh=>by rw[m2] at h ⊢;exact g.pc h,?_,λh=>?_,λh=>?_,g.r16,hh,g.sd⟩
 .rw[m3];split<;>simp
 .rw[m3] at h;have hpr:pV F R S.1 s t:=cM λz=>by rw[cH z] at h;cases h
  rw[m4 hpr];exact Dd g.sd hp
 .rw[m1] at h ⊢;rw[m2];rw[IQ] at h;exact far h
theorem Gy(g:Gp F R S.1 S.2.1 S.2.2):(li F R S.1 s t pr).length=F*R:=by
 have hl:=g.cg.cl.l;unfold li oz;split<;>simp [hl]
theorem IP(g:Gp F R S.1 S.2.1 S.2.2)(lt:t<F*R)(ne:s≠t):(li F R S.1 s t pr).getD t 0=if pV F R S.1 s t then S.1.getD s 0/8*8+2+pr else S.1.getD s 0:=by
 have hl:=g.cg.cl.l;unfold li;by_cases h:pV F R S.1 s t
 .rw[cG h,cG h,oB (by unfold oz;simp;lia)]
 .rw[cH h,cH h];unfold oz;rw[im t (dT ne),oB (by lia)]
theorem EX(g:Gp F R S.1 S.2.1 S.2.2)(ls:s<F*R)(ne:s≠t):(li F R S.1 s t pr).getD s 0=0:=by
 have hl:=g.cg.cl.l;unfold li;split
 .rw[im s ne];unfold oz;rw[oB (by simp;lia)]
 .unfold oz;rw[oB (by simp;lia)]
theorem GJ(h1:i≠s)(h2:i≠t):(li F R S.1 s t pr).getD i 0=S.1.getD i 0:=by
 unfold li;split
 .rw[im i h2];unfold oz;rw[im i h1,im i h2]
 .unfold oz;rw[im i h1,im i h2]
theorem Ji(g:Gp F R S.1 S.2.1 S.2.2)(lt:t<F*R)(ne:s≠t)(own:S.1.getD s 0≠0/\S.1.getD s 0/8=S.2.1)(hp:pr<4):vb ((li F R S.1 s t pr).getD t 0)/\(li F R S.1 s t pr).getD t 0≠0:=by
 rw[IP g lt ne];have hs:=g.sd;split
 .rw[own.2,dI,dY 2 pr];exact⟨Dd hs hp,by lia⟩
 .exact⟨g.pc own.1,own.1⟩
theorem Zi(pl:PL F R cc)(g:Gp F R S.1 S.2.1 S.2.2)(L:H5 F R S s t)(hp:pr<4)(hh:ay.length<900)(hf:1<=full'):Zq (dL F R cc) (oj (F*R) (li F R S.1 s t pr) (1 - S.2.1) aZ aU full' kx' ay) (y7 F R S.1 s t pr) (S.1.getD t 0):=by
 ext s t pr S ay full' aU kx' aZ;obtain⟨ls,lt,ne,own,gm⟩:=yK pl g L;obtain⟨m1,m2,m3,m4⟩:=Hg pl g L hp;refine⟨CY (Gy g) rfl,by rw[m1];exact ls,by rw[m2];exact lt,by rw[m2];exact(Ji g lt ne own hp).1,λh=>g.pc h,by rw[m3];split<;>simp,hh,c2 _,hf⟩
theorem Vo{aU kx' aZ:Nat}{hs':List V}(pl:PL F R cc)(g:Gp F R S.1 S.2.1 S.2.2)(L:H5 F R S s t)(hp:pr<4):
  unP (dL F R cc) (oj (F*R) (li F R S.1 s t pr) (1 - S.2.1) aZ aU (if S.2.1=1 then av+1 else av) kx' hs') ay (y7 F R S.1 s t pr) (S.1.getD t 0) S.2.2 aA (pM (F*R) S aA av ay).key=pM (F*R) S aA av ay:=by
 ext s t pr aA av S ay aU kx' aZ hs';obtain⟨ls,lt,ne,own,gm⟩:=yK pl g L;obtain⟨m1,m2,m3,m4⟩:=Hg pl g L hp;have hsz:=g.cg.cl.bd.sz;have hl:=g.cg.cl.l;have hs2:=g.sd;have hG:(dL F R cc).size=F*R:=rfl;have al:=Gy (s:=s) (t:=t) (pr:=pr) g;have ap:=Ji g lt ne own hp;have ss:1 - (1 - S.2.1)=S.2.1:=ff2 (by assumption);unfold unP;rw[m1,m2,m3];obtain⟨P,hP⟩:=(⟨_,rfl⟩:∃P,P=oj (F*R) (li F R S.1 s t pr) (1 - S.2.1) aZ aU (if S.2.1=1 then av+1 else av) kx' hs')
 have pb:P.board=li F R S.1 s t pr:=by rw[hP];rfl
 have ps:P.au=1 - S.2.1:=by rw[hP];rfl
 have pp:DV P ay=oj (F*R) (li F R S.1 s t pr) S.2.1 aZ aU (if S.2.1=1 then av+1 else av) kx' ay:=by
  unfold DV;rw[ps,ss,hP];rfl
 rw[<- hP,pb,ps,ss,pp];have e1:qS (dL F R cc) (oj (F*R) (li F R S.1 s t pr) S.2.1 aZ aU (if S.2.1=1 then av+1 else av) kx' ay) ((li F R S.1 s t pr).getD t 0) (if pV F R S.1 s t then 1 else 0) (S.2.1*8+1) t s=
   oj (F*R) (S.1.set t 0) S.2.1 aZ aU (if S.2.1=1 then av+1 else av) kx' ay:=by
  unfold qS;by_cases hpr:pV F R S.1 s t
  .have e8:S.1.getD s 0=S.2.1*8+1:=by
    have:=hpr.1;have:=own.2;lia
   rw[cG hpr,cG rfl,Dg hG lt al ap.1 ap.2 rfl,Dc hG ls (z6 al) (pc8 hs2) (by lia) (by rw[im s ne];exact EX g ls ne)];congr 1;refine pH (by simp [al,hl]) (λw=>by rw[im s ne];exact e8) λi hi=>?_;by_cases e:i=t
   .subst e;rw[oB (by lia),oB (by lia)]
   .rw[im i e,im i e,GJ hi e]
  .rw[cH hpr,cH ⋯,Gf hG lt ls (dT ne) al ap.1 ap.2 rfl (EX g ls ne)];congr 1;refine pH (by simp [al,hl]) (λw=>by rw[im s ne,IP g lt ne,cH hpr]) λi hi=>?_;by_cases e:i=t
   .subst e;rw[oB (by lia),oB (by lia)]
   .rw[im i e,im i e,GJ hi e]
 rw[e1];have e2:FY (dL F R cc) (oj (F*R) (S.1.set t 0) S.2.1 aZ aU (if S.2.1=1 then av+1 else av) kx' ay) (S.1.getD t 0) t=oj (F*R) S.1 S.2.1 aZ aU (if S.2.1=1 then av+1 else av) kx' ay:=by
  unfold FY;have e3:(S.1.set t 0).set t (S.1.getD t 0)=S.1:=by
   rw[gU];exact pH rfl (λw=>rfl) λw w=>rfl
  by_cases h0:S.1.getD t 0=0
  .rw[cH (λz=>z h0)];rw[h0,gU] at e3;rw[e3]
  .rw[cG h0,Dc hG lt (z6 hl) (g.pc h0) h0 (oB (by lia)),e3]
 rw[e2];unfold Dz pM oj;by_cases h1:S.2.1=1
 .rw[cG h1,cG h1];rfl
 .rw[cH h1,cH h1]
end
section
local macro_rules (kind := Lean.Parser.Term.tuple) | s => Mine.Lake.mP s
def wl(F R s d:Nat):List Nat:=wN F R s (oy.getD d (0,0))
def pre(t:Nat)(l:List Nat):List Nat:=l.takeWhile λx=> !cu (x=t)
def KW:List Nat->List Nat
 | []=>[0]
 | s::l=>KW l++(KW l).map λm=>1 <<< s ||| m
def Vp(F R:Nat)(f:Nat->Nat->Bool):Bool:=(cn 8).all λd=>(cn (F*R)).all λs=>f d s
def Qc(F R:Nat)(f:Nat->Nat->Bool):Bool:=(cn (F*R)).all λs=>(cn (F*R)).all λt=>f s t
def GY(p q:Bool):Bool:=p == q
def DR(p q:Bool):Bool:= !p||q
structure Tab (F R:Nat):Prop where
 atk:Vp F R (λd s=>(KW (wl F R s d)).all λm=>tE (Cz d) (rM (wl F R s d)) m == rM (pB (λx=>m.testBit x) (wl F R s d)))=b9
 sym:Vp F R (λd s=>(cn (F*R)).all λt=>GY (cu (t∈wl F R s d)) (cu (s∈wl F R t (d ^^^ 2)))&&DR (cu (t∈wl F R s d)) (cu (pre s (wl F R t (d ^^^ 2))=(pre t (wl F R s d)).reverse)&&cu (((wl F R s d).filter λx=>cu (x∈wl F R t (d ^^^ 2)))=pre t (wl F R s d))&&cu (wl F R s d=pre t (wl F R s d)++t::wl F R t d)))=b9
 dis:Vp F R (λd s=>cu (wl F R s d).Nodup&& !cu (s∈wl F R s d)&&(cn 8).all λd'=>cu (d=d')||(wl F R s d).all λx=> !cu (x∈wl F R s d'))=b9
 ks:Qc F R (λs t=>GY (cu (t∈mo F R s oy)) (cu (s∈mo F R t oy))&&GY (cu (t∈mo F R s t6)) (cu (s∈mo F R t t6))&&GY (cu (t∈mo F R s (rO 0))) (cu (s∈mo F R t (rO 1))))=b9
 adj:Qc F R (λs t=>DR (cu (t∈mo F R s oy)) ((cn 8).any λd=>cu (t∈wl F R s d)&&cu (pre t (wl F R s d)=[]))&&DR (cu (t∈mo F R s t6)) ((cn 8).all λd=> !cu (t∈wl F R s d))&&DR (cu (t∈mo F R s (rO 0))||decide (t∈mo F R s (rO 1))) (cu (t∈mo F R s oy))&& !cu (s∈mo F R s oy)&& !cu (s∈mo F R s t6))=b9
theorem Zc:Tab 3 4:=⟨by decide +kernel,by decide +kernel,by decide +kernel,by decide +kernel,by decide +kernel⟩
theorem Y0:Tab 7 3:=⟨by decide +kernel,by decide +kernel,by decide +kernel,by decide +kernel,by decide +kernel⟩
theorem T1:Tab F R:=KY (C:=λF R w=>Tab F R) Zc Y0
theorem D8:∀(l:List Nat) (a i:Nat),(l.foldl (λa t=>a ||| 1 <<< t) a).testBit i=(a.testBit i||decide (i∈l))
 | [],a,i=>by simp
 | s::l,a,i=>by
  rw[ja,D8 l,dz,qf,dq,Bool.or_assoc];congr 1;rw[de];simp only[cW,cA,dS,eq_comm (a:=s) (b:=i)]
theorem pC(l:List Nat)(i:Nat):(rM l).testBit i=cu (i∈l):=by
 unfold rM;rw[D8,dy,fy]
theorem MJ:∀(l:List Nat) (o:Nat),∃m∈KW l,∀x,m.testBit x=(o.testBit x&&cu (x∈l))
 | [],o=>⟨0,by simp [KW],λx=>by rw[dy];simp⟩
 | s::l,o=>by
  obtain⟨m,h1,h2⟩:=MJ l o;cases hs:o.testBit s with
  | true=>
   refine⟨1 <<< s ||| m,cV.mpr (.inr (ef.mpr ⟨m,h1,rfl⟩)),λx=>?_⟩;rw[dz,qf,dq,h2];by_cases e:s=x
   .subst e;rw[hs];simp
   .have e':x≠s:=λz=>e z.symm;simp [e,e']
  | false=>
   refine⟨m,cV.mpr (.inl h1),λx=>?_⟩;rw[h2];by_cases e:x=s
   .subst e;rw[hs];rfl
   .simp [e]
theorem yE:∀{l:List Nat},(∀x∈l,p x=q x)->pB p l=pB q l
 | [],_=>rfl
 | s::l,h=>by rw[pB,pB,h s (.head _),yE λx hx=>h x (.tail _ hx)]
theorem Mj(h:r &&& o=r &&& m):tE b r o=tE b r m:=by unfold tE;rw[h]
theorem Dh:pre t (y::l)=if y=t then[] else y::pre t l:=by
 unfold pre;by_cases e:y=t
 .rw[cG e,List.takeWhile_cons_of_neg (by simp [e])]
 .rw[cH e,List.takeWhile_cons_of_pos (by simp [e])]
theorem pd:x∈pre t (y::l)↔y≠t/\(x=y\/x∈pre t l):=by
 rw[Dh];by_cases e:y=t
 .rw[cG e];exact⟨(nomatch ·),λh=>cJ e h.1⟩
 .rw[cH e,dS];exact⟨.intro e,(·.2)⟩
theorem pY{l:List Nat}:t∈pB p l↔t∈l/\∀x∈pre t l,p x=cj:=by
 induction l with
 | nil=>exact⟨(nomatch ·),And.left⟩
 | cons s l ih=>
  constructor
  .exact λh=>(dS.mp h).elim (λe=>⟨e▸.head _,λx hx=>cJ e.symm (pd.mp hx).1⟩) λh=>by
    cases hp:p s with
    | true=>rw[hp] at h;exact nomatch h
    | false=>
     rw[hp] at h;exact⟨.tail _ (ih.mp h).1,λx hx=>(pd.mp hx).2.elim (·▸hp) ((ih.mp h).2 x)⟩
  .intro h;by_cases e:s=t
   .exact e▸.head _
   .refine .tail _ ?_;rw[h.2 s (pd.mpr ⟨e,.inl rfl⟩)];exact ih.mpr ⟨gY (dT e) h.1,λx hx=>h.2 x (pd.mpr ⟨e,.inr hx⟩)⟩
section
variable{s t d o k:Nat}
theorem GW(h:Vp F R f=b9)(hd:d<8)(hs:s<F*R):f d s=b9:=cN.mp (cN.mp h d (cO.mpr hd)) s (cO.mpr hs)
theorem ue(h:Qc F R f=b9)(hs:s<F*R)(ht:t<F*R):f s t=b9:=cN.mp (cN.mp h s (cO.mpr hs)) t (cO.mpr ht)
theorem xQ(hd:d<8)(hs:s<F*R):(dL F R cc).ray d s=rM (wl F R s d):=by
 unfold pf.ray;have e1:(dL F R cc).rays.getD d []=(cn (F*R)).map λs=>rM (wN F R s (oy.getD d (0,0))):=by
  rw[ba];show(((cn 8).map λd=>(cn (F*R)).map λs=>rM (wN F R s (oy.getD d (0,0))))[d]?).getD []=_;rw[cY,fS hd];rfl
 rw[e1,o9 hs];rfl
theorem JG(hs:s<F*R):(dL F R cc).king.getD s 0=rM (mo F R s oy):=o9 hs
theorem E9(hs:s<F*R):(dL F R cc).knight.getD s 0=rM (mo F R s t6):=o9 hs
theorem XD(hk:k<2)(hs:s<F*R):(dL F R cc).pw k s=rM (mo F R s (rO k)):=by
 match k,hk with
 | 0,_=>exact o9 hs
 | 1,_=>exact o9 hs
theorem C4(hd:d<8)(hs:s<F*R):tE (Cz d) ((dL F R cc).ray d s) o=rM (pB (λx=>o.testBit x) (wl F R s d)):=by
 ext s d o;rw[xQ hd hs];obtain⟨m,m1,m2⟩:=MJ (wl F R s d) o;have e1:rM (wl F R s d) &&& o=rM (wl F R s d) &&& m:=by
  refine d0 λi=>?_;rw[cU,cU,pC,m2];cases cu (i∈wl F R s d)<;>simp
 rw[Mj e1,cK (cN.mp (GW T1.atk hd hs) m m1)];congr 1;refine yE λx hx=>?_;rw[m2,cC hx,jH]
theorem MI{lo i:Nat}(n:Nat):(Vn f lo n).testBit i=b9↔∃d,lo<=d/\d<lo+n/\(f d).testBit i=b9:=by
 induction n with
 | zero=>exact⟨(nomatch (dy i).symm.trans ·),λ⟨d,h⟩=>cJ h.2.1 (fX.mpr h.1)⟩
 | succ n ih=>
  show(Vn f lo n ||| f (lo+n)).testBit i=b9↔_;rw[dz,cW,ih];exact⟨λh=>h.elim (λ⟨d,h⟩=>⟨d,h.1,g7 h.2.1,h.2.2⟩) λh=>⟨_,di _ _,dO _,h⟩,λ⟨d,h⟩=>(jI.mp h.2.1).elim (λq=>.inl ⟨d,h.1,q,h.2.2⟩) λq=>.inr ((show d=lo+n from q)▸h.2.2)⟩
theorem Fb(hs:s<F*R):(sy (dL F R cc) s o).testBit t=b9↔∃d,d<4/\t∈pB (λx=>o.testBit x) (wl F R s d):=by
 ext s t o;unfold sy;rw[MI];constructor
 .rintro⟨d,h1,h2,h3⟩;rw[C4 (by lia) hs,pC] at h3;exact⟨d,by lia,cy h3⟩
 .rintro⟨d,h1,h2⟩;exact⟨d,dH _,by lia,by rw[C4 (by lia) hs,pC];exact cC h2⟩
theorem Fe(hs:s<F*R):(tG (dL F R cc) s o).testBit t=b9↔∃d,4<=d/\d<8/\t∈pB (λx=>o.testBit x) (wl F R s d):=by
 ext s t o;unfold tG;rw[MI];constructor
 .rintro⟨d,h1,h2,h3⟩;rw[C4 (by lia) hs,pC] at h3;exact⟨d,h1,by lia,cy h3⟩
 .rintro⟨d,h1,h2,h3⟩;exact⟨d,h1,by lia,by rw[C4 (by lia) hs,pC];exact cC h3⟩
end
def xZ(F R:Nat)(p:Nat->Bool)(k sd a t:Nat):Prop:=
 (k=1/\t∈mo F R a (rO sd))\/(k=2/\t∈mo F R a t6)\/(k=6/\t∈mo F R a oy)\/∃d,d<8/\(if d<4 then k=4\/k=5 else k=3\/k=5)/\t∈pB p (wl F R a d)
theorem OE(h:∀x,p x=b9):∀l:List Nat,pB p l=l.take 1
 | []=>rfl
 | s::l=>by rw[pB,h,cG rfl];rfl
theorem S8{P:Int × Int->Prop}:(∃w∈oy,P w)↔∃d,d<8/\P (oy.getD d (0,0)):=by
 constructor
 .rintro⟨w,hw,h⟩;obtain⟨d,hd,e⟩:=ik hw;exact⟨d,hd,by rw[ba,a7 hd,e];exact h⟩
 .rintro⟨d,hd,h⟩;refine⟨_,?_,h⟩;refine lt8 hd ?_ ?_ ?_ ?_ ?_ ?_ ?_ ?_<;>simp [oy]
theorem Pi{P:Int × Int->Prop}:(∃w∈oy.take 4,P w)↔∃d,d<4/\P (oy.getD d (0,0)):=by
 ext P;constructor
 .rintro⟨w,hw,h⟩;obtain⟨d,hd,e⟩:=ik hw;have hd4:d<4:=hd;refine⟨d,hd4,?_⟩;have g:(oy.take 4)[d]=oy.getD d (0,0):=V7 (P:=λd=>∀h:d<(oy.take 4).length,(oy.take 4)[d]=oy.getD d (0,0)) hd4 (λz=>rfl) (λz=>rfl) (λz=>rfl) (λz=>rfl) hd;exact g▸e▸h
 .rintro⟨d,hd,h⟩;refine⟨_,?_,h⟩;refine V7 hd ?_ ?_ ?_ ?_<;>simp [oy]
theorem O1{P:Int × Int->Prop}:(∃w∈oy.drop 4,P w)↔∃d,4<=d/\d<8/\P (oy.getD d (0,0)):=by
 ext P;constructor
 .rintro⟨w,hw,h⟩;obtain⟨d,hd,e⟩:=ik hw;have hd4:d<4:=hd;refine⟨d+4,by lia,by lia,?_⟩;have g:(oy.drop 4)[d]=oy.getD (d+4) (0,0):=V7 (P:=λd=>∀h:d<(oy.drop 4).length,(oy.drop 4)[d]=oy.getD (d+4) (0,0)) hd4 (λz=>rfl) (λz=>rfl) (λz=>rfl) (λz=>rfl) hd;exact g▸e▸h
 .rintro⟨d,h1,hd,h⟩;refine⟨_,?_,h⟩;obtain⟨d,rfl⟩:=fP h1;refine V7 (jw (show 4+d<4+4 from hd)) ?_ ?_ ?_ ?_<;>simp [oy]
theorem vJ{aS:List Nat}(hk:1<=k/\k<=6):t∈yg F R aS k sd a↔xZ F R (λx=>cu (aS.getD x 0≠0)) k sd a t:=by
 ext k sd a t aS;unfold yg;have aG:ze k=b9->(pJ k sd).flatMap (λw=>pB (wW aS k) (wN F R a w))=mo F R a (pJ k sd):=λh=>by
  unfold mo;congr 1;funext w;exact OE (λx=>by unfold wW;rw[h,Bool.or_true]) _
 have sld:ze k=cj->∀w,pB (wW aS k) (wN F R a w)=pB (λx=>cu (aS.getD x 0≠0)) (wN F R a w):=λh w=>yE λx z=>by unfold wW;rw[h,iV]
 unfold xZ;rcases IO hk with h | h | h | h | h | h<;>subst h
 .rw[aG rfl];simp [pJ]
 .rw[aG rfl];simp [pJ]
 .rw[aG rfl];simp [pJ]
 .simp only[sld rfl];rw[dP];show(∃w∈oy.drop 4,_)↔_;rw[O1];constructor
  .rintro⟨d,h1,h2,h3⟩;exact .inr (.inr (.inr ⟨d,h2,by rw[cH (by lia)];simp,h3⟩))
  .rintro(⟨h,_⟩ | ⟨h,_⟩ | ⟨h,_⟩ | ⟨d,h1,h2,h3⟩)
   .cases h
   .cases h
   .cases h
   .refine⟨d,?_,h1,h3⟩;by_cases e:d<4
    .rw[cG e] at h2;lia
    .lia
 .simp only[sld rfl];rw[dP];show(∃w∈oy.take 4,_)↔_;rw[Pi];constructor
  .rintro⟨d,h1,h3⟩;exact .inr (.inr (.inr ⟨d,by lia,by rw[cG h1];simp,h3⟩))
  .rintro(⟨h,_⟩ | ⟨h,_⟩ | ⟨h,_⟩ | ⟨d,h1,h2,h3⟩)
   .cases h
   .cases h
   .cases h
   .refine⟨d,?_,h3⟩;by_cases e:d<4
    .exact e
    .rw[cH e] at h2;lia
 .simp only[sld rfl];rw[dP];show(∃w∈oy,_)↔_;rw[S8];constructor
  .rintro⟨d,h1,h3⟩;exact .inr (.inr (.inr ⟨d,h1,by split<;>simp,h3⟩))
  .rintro(⟨h,_⟩ | ⟨h,_⟩ | ⟨h,_⟩ | ⟨d,h1,h2,h3⟩)
   .cases h
   .cases h
   .cases h
   .exact⟨d,h1,h3⟩
theorem tx:x≠0↔∃i,x.testBit i=b9:=by
 constructor
 .intro h;refine cM λz=>h (d0 λi=>?_);rw[dy];cases q:x.testBit i with
  | false=>rfl
  | true=>exact cJ ⟨i,q⟩ z
 .rintro⟨i,h⟩ e;rw[e,dy] at h;cases h
section
variable{s t d o k a au az aA av kx c n:Nat}{cs:List Nat}{ay:List V}{p:Nat->Bool}
theorem vR(hd:d<8):d ^^^ 2<8/\(d ^^^ 2) ^^^ 2=d/\(d ^^^ 2<4↔d<4):=by
 match d,hd with
 | 0,_ | 1,_ | 2,_ | 3,_ | 4,_ | 5,_ | 6,_ | 7,_=>decide
theorem GS(hd:d<8)(hs:s<F*R)(ht:t<F*R):(t∈wl F R s d↔s∈wl F R t (d ^^^ 2))/\(t∈wl F R s d->pre s (wl F R t (d ^^^ 2))=(pre t (wl F R s d)).reverse/\((wl F R s d).filter λx=>cu (x∈wl F R t (d ^^^ 2)))=pre t (wl F R s d)/\wl F R s d=pre t (wl F R s d)++t::wl F R t d):=by
 ext s t d;have z:=cN.mp (GW T1.sym hd hs) t (cO.mpr ht);unfold GY DR at z;rw[ax] at z;have z1:=cK z.1;rw[de,cA,cA] at z1;refine⟨z1,λh=>?_⟩;have z2:=z.2;rw[cC h,jG,fy,ax,ax,cA,cA,cA] at z2;exact⟨z2.1.1,z2.1.2,z2.2⟩
theorem zO(hd:d<8)(hs:s<F*R)(ht:t<F*R)(h:t∈pB p (wl F R s d)):s∈pB p (wl F R t (d ^^^ 2)):=by
 ext s t d p;obtain⟨h1,h2⟩:=pY.mp h;obtain⟨s1,s2⟩:=GS hd hs ht;refine pY.mpr ⟨s1.mp h1,λx hx=>?_⟩;rw[(s2 h1).1] at hx;exact h2 x (iS.mp hx)
theorem su(hs:s<F*R)(ht:t<F*R):(t∈mo F R s oy↔s∈mo F R t oy)/\(t∈mo F R s t6↔s∈mo F R t t6)/\(t∈mo F R s (rO 0)↔s∈mo F R t (rO 1)):=by
 ext s t;have z:=ue T1.ks hs ht;unfold GY at z;rw[ax,ax] at z;have z1:=cK z.1.1;have z2:=cK z.1.2;have z3:=cK z.2;rw[de,cA,cA] at z1 z2 z3;exact⟨z1,z2,z3⟩
theorem EU(hs:s<F*R)(ht:t<F*R)(hc:c<2):t∈mo F R s (rO c)↔s∈mo F R t (rO (1 - c)):=by
 rcases (u2 (by assumption:c<2)) with e | e<;>subst e
 .exact(su hs ht).2.2
 .exact(su ht hs).2.2.symm
theorem qZ(hk:k<7):((oj n cs au az aA av kx ay).kd k).testBit a=b9↔a<n/\cs.getD a 0≠0/\cs.getD a 0%8=k:=by
 rw[LD hk,pX];simp only[ax,cA]
theorem sY(hk:k<2):((oj n cs au az aA av kx ay).sd k).testBit a=b9↔a<n/\cs.getD a 0≠0/\cs.getD a 0/8=k:=by
 rw[EC hk,pX];simp only[ax,cA]
theorem TI(hv:∀i,cs.getD i 0<16):(oj n cs au az aA av kx ay).all.testBit a=b9↔a<n/\cs.getD a 0≠0:=by
 unfold Ps.all;rw[dz,cW,sY ⋯,sY ⋯];have:=hv a;constructor
 .rintro(h | h)
  .exact⟨h.1,h.2.1⟩
  .exact⟨h.1,h.2.1⟩
 .rintro⟨h1,h2⟩;rcases (by lia:cs.getD a 0/8=0\/cs.getD a 0/8=1) with h | h
  .exact .inl ⟨h1,h2,h⟩
  .exact .inr ⟨h1,h2,h⟩
theorem zm(ht:t<F*R)(hc:c<2):(vg (dL F R cc) () t c).testBit a=b9↔a<F*R/\cs.getD a 0≠0/\cs.getD a 0/8=c/\(cs.getD a 0%8=1/\t∈mo F R a (rO c)\/cs.getD a 0%8=2/\t∈mo F R a t6\/cs.getD a 0%8=6/\t∈mo F R a oy):=by
 ext t a au az aA av kx c cs ay;unfold vg Ku;rw[XD (by lia) ht,E9 ht,JG ht];simp only[dz,cU,cW,ax,pC,cA,qZ (show 1<7 by decide),qZ (show 2<7 by decide),qZ (show 6<7 by decide),sY hc];constructor
 .rintro(⟨⟨h1,h2,h3,h4⟩,_,_,h5⟩ | ⟨⟨h1,h2,h3,h4⟩ | ⟨h1,h2,h3,h4⟩,_,_,h5⟩)
  .exact⟨h2,h3,h5,.inl ⟨h4,(EU h2 ht hc).mpr h1⟩⟩
  .exact⟨h2,h3,h5,.inr (.inl ⟨h4,(su h2 ht).2.1.mpr h1⟩)⟩
  .exact⟨h2,h3,h5,.inr (.inr ⟨h4,(su h2 ht).1.mpr h1⟩)⟩
 .rintro⟨h2,h3,h5,⟨h4,h1⟩ | ⟨h4,h1⟩ | ⟨h4,h1⟩⟩
  .exact .inl ⟨⟨(EU h2 ht hc).mp h1,h2,h3,h4⟩,h2,h3,h5⟩
  .exact .inr ⟨.inl ⟨(su h2 ht).2.1.mp h1,h2,h3,h4⟩,h2,h3,h5⟩
  .exact .inr ⟨.inr ⟨(su h2 ht).1.mp h1,h2,h3,h4⟩,h2,h3,h5⟩
def Yx(k d:Nat):Prop:=if d<4 then k=4\/k=5 else k=3\/k=5
theorem RS:(oj n cs au az aA av kx ay).strt.testBit a=b9↔a<n/\cs.getD a 0≠0/\(cs.getD a 0%8=4\/cs.getD a 0%8=5):=by
 unfold Ps.strt;rw[dz,cW,qZ ⋯,qZ ⋯];constructor
 .rintro(⟨h1,h2,h3⟩ | ⟨h1,h2,h3⟩)
  .exact⟨h1,h2,.inl h3⟩
  .exact⟨h1,h2,.inr h3⟩
 .rintro⟨h1,h2,h3 | h3⟩
  .exact .inl ⟨h1,h2,h3⟩
  .exact .inr ⟨h1,h2,h3⟩
theorem QL:(oj n cs au az aA av kx ay).slnt.testBit a=b9↔a<n/\cs.getD a 0≠0/\(cs.getD a 0%8=3\/cs.getD a 0%8=5):=by
 ext a au az aA av kx n cs ay;unfold Ps.slnt;rw[dz,cW,qZ ⋯,qZ ⋯];constructor
 .rintro(⟨h1,h2,h3⟩ | ⟨h1,h2,h3⟩)
  .exact⟨h1,h2,.inl h3⟩
  .exact⟨h1,h2,.inr h3⟩
 .rintro⟨h1,h2,h3 | h3⟩
  .exact .inl ⟨h1,h2,h3⟩
  .exact .inr ⟨h1,h2,h3⟩
theorem I9(ht:t<F*R):(tX (dL F R cc) () t o).testBit a=b9↔a<F*R/\cs.getD a 0≠0/\∃d,d<8/\Yx (cs.getD a 0%8) d/\a∈pB (λx=>o.testBit x) (wl F R t d):=by
 ext t o a au az aA av kx cs ay;unfold tX Yx;rw[dz,cW,cU,cU,ax,ax,Fb ht,Fe ht,RS,QL];constructor
 .rintro(⟨⟨d,h1,h2⟩,h3,h4,h5⟩ | ⟨⟨d,h0,h1,h2⟩,h3,h4,h5⟩)
  .exact⟨h3,h4,d,by lia,by rw[cG h1];exact h5,h2⟩
  .exact⟨h3,h4,d,h1,by rw[cH (by lia)];exact h5,h2⟩
 .rintro⟨h3,h4,d,h1,h5,h2⟩;by_cases e:d<4
  .rw[cG e] at h5;exact .inl ⟨⟨d,e,h2⟩,h3,h4,h5⟩
  .rw[cH e] at h5;exact .inr ⟨⟨d,by lia,h1,h2⟩,h3,h4,h5⟩
theorem CS(hd:d<8):Yx k (d ^^^ 2)↔Yx k d:=by
 unfold Yx;have:=(vR hd).2.2;by_cases e:d<4
 .rw[cG e,cG (this.mpr e)]
 .rw[cH e,cH (λz=>e (this.mp z))]
def yZ(F R:Nat)(cs:List Nat)(p:Nat->Bool)(c t a:Nat):Prop:=a<F*R/\cs.getD a 0≠0/\cs.getD a 0/8=c/\xZ F R p (cs.getD a 0%8) c a t
theorem HF(ht:t<F*R)(hc:c<2)(ha:a<F*R)(h0:cs.getD a 0≠0)(h1:cs.getD a 0/8=c):xZ F R (λx=>o.testBit x) (cs.getD a 0%8) c a t↔(vg (dL F R cc) () t c).testBit a=b9\/(tX (dL F R cc) () t o).testBit a=b9:=by
 ext t o a au az aA av kx c cs ay;rw[zm ht hc,I9 ht];unfold xZ;constructor
 .rintro(h | h | h | ⟨d,h2,h3,h4⟩)
  .exact .inl ⟨ha,h0,h1,.inl h⟩
  .exact .inl ⟨ha,h0,h1,.inr (.inl h)⟩
  .exact .inl ⟨ha,h0,h1,.inr (.inr h)⟩
  .exact .inr ⟨ha,h0,d ^^^ 2,(vR h2).1,(CS h2).mpr h3,zO h2 ha ht h4⟩
 .rintro(⟨_,_,_,h⟩ | ⟨_,_,d,h2,h3,h4⟩)
  .rcases h with h | h | h
   .exact .inl h
   .exact .inr (.inl h)
   .exact .inr (.inr (.inl h))
  .exact .inr (.inr (.inr ⟨d ^^^ 2,(vR h2).1,(CS h2).mpr h3,zO h2 ht ha h4⟩))
theorem tA(ht:t<F*R)(hc:c<2):uE (dL F R cc) () t c o=b9↔∃a,yZ F R cs (λx=>o.testBit x) c t a:=by
 ext t o au az aA av kx c cs ay;have key:∀a,yZ F R cs (λx=>o.testBit x) c t a↔(vg (dL F R cc) () t c).testBit a=b9\/(tX (dL F R cc) () t o &&& ().sd c).testBit a=b9:=λa=>by
  ext a;rw[cU,ax,sY hc];constructor
  .rintro⟨h1,h2,h3,h4⟩;rcases (HF ht hc h1 h2 h3).mp h4 with h | h
   .exact .inl h
   .exact .inr ⟨h,h1,h2,h3⟩
  .rintro(h | ⟨h,h1,h2,h3⟩)
   .have z:=(zm ht hc).mp h;exact⟨z.1,z.2.1,z.2.2.1,(HF ht hc z.1 z.2.1 z.2.2.1).mpr (.inl h)⟩
   .exact⟨h1,h2,h3,(HF ht hc h1 h2 h3).mpr (.inr h)⟩
 have e:(∃a,yZ F R cs (λx=>o.testBit x) c t a)↔vg (dL F R cc) () t c≠0\/tX (dL F R cc) () t o &&& ().sd c≠0:=by
  rw[tx,tx];constructor
  .rintro⟨a,h⟩;rcases (key a).mp h with h | h
   .exact .inl ⟨a,h⟩
   .exact .inr ⟨a,h⟩
  .rintro(⟨a,h⟩ | ⟨a,h⟩)
   .exact⟨a,(key a).mpr (.inl h)⟩
   .exact⟨a,(key a).mpr (.inr h)⟩
 rw[e];unfold uE tX;generalize vg (dL F R cc) () t c=x1;generalize sy (dL F R cc) t o=x2;generalize tG (dL F R cc) t o=x3;generalize ().strt=x4;generalize ().slnt=x5;generalize ().sd c=x6;simp only[cW,ax,cA];have e2:(x2 &&& x4 ||| x3 &&& x5) &&& x6≠0↔x2 &&& (x4 &&& x6)≠0\/(x5 &&& x6≠0/\x3 &&& (x5 &&& x6)≠0):=by
  rw[tx,tx,tx,tx];simp only[cU,dz,ax,cW];constructor
  .rintro⟨i,⟨h1,h2⟩ | ⟨h1,h2⟩,h3⟩
   .exact .inl ⟨i,h1,h2,h3⟩
   .exact .inr ⟨⟨i,h2,h3⟩,i,h1,h2,h3⟩
  .rintro(⟨i,h1,h2,h3⟩ | ⟨_,i,h1,h2,h3⟩)
   .exact⟨i,.inl ⟨h1,h2⟩,h3⟩
   .exact⟨i,.inr ⟨h1,h2⟩,h3⟩
 rw[e2]
end
def u4(cs:List Nat)(x:Nat):Bool:=cu (cs.getD x 0≠0)
def zr(cs:List Nat)(s t x:Nat):Bool:=cu (x=t)||(cu (cs.getD x 0≠0)&& !cu (x=s))
theorem Ic(h:∀i,x.testBit i=b9↔i=k):x=2 ^ k:=by
 refine d0 λi=>?_;rw[dq,de,h,cA,eq_comm]
theorem J5(k:Nat):2 ^ k &&& (2 ^ k - 1)=0:=by
 refine d0 λi=>?_;rw[cU,dq,dy,jm];by_cases h:k=i
 .subst h;simp
 .simp [h]
theorem JP(k:Nat):IF (2 ^ k)=k:=by
 unfold IF oq;rw[J5,ma,Nat.log2_two_pow]
section
variable{s t o k a au az aA av kx c n K:Nat}{cs:List Nat}{ay:List V}{p q:Nat->Bool}
theorem sT(hl:cs.length=n)(hv:∀i,cs.getD i 0<16):(λx=>(oj n cs au az aA av kx ay).all.testBit x)=u4 cs:=by
 funext x;rw[de,TI hv];unfold u4;rw[cA];refine⟨λh=>h.2,λh=>⟨cM λz=>h (w5 (by rw[hl];exact z)),h⟩⟩
theorem Ka(g:xx F R cs)(hc:c<2)(hk:∀i,cs.getD i 0=c*8+6↔i=K)(hK:K<F*R):().sd c &&& ().kd 6=2 ^ K:=by
 refine Ic λi=>?_;rw[cU,ax,sY hc,qZ ⋯];constructor
 .rintro⟨⟨h1,h2,h3⟩,_,_,h4⟩;exact(hk i).mp (by lia)
 .intro e;subst e;have:=(hk i).mpr rfl;exact⟨⟨hK,by lia,by lia⟩,hK,by lia,by lia⟩
theorem z9(g:xx F R cs)(hc:c<2)(hk:∀i,cs.getD i 0=c*8+6↔i=K)(hK:K<F*R):().king c=K:=by
 unfold Ps.king;rw[Ka g hc hk hK,JP]
theorem Tn(g:xx F R cs)(hc:c<2)(hk:∀i,cs.getD i 0=c*8+6↔i=K)(hK:K<F*R):td (dL F R cc) () c:=
 ⟨by rw[Ka g hc hk hK];exact gj _,by rw[z9 g hc hk hK];exact hK⟩
theorem Mn(g:xx F R cs)(h:cs.getD a 0≠0):1<=cs.getD a 0%8/\cs.getD a 0%8<=6:=by
 rcases g.pv a with z | z
 .exact cJ z h
 .exact z
theorem JZ(hl:ds.length=F*R)(hv:∀i,ds.getD i 0<16)(pv:∀i,ds.getD i 0=0\/1<=ds.getD i 0%8/\ds.getD i 0%8<=6)(hs:au<2):tL F R ds t au=b9↔∀a,¬yZ F R ds (u4 ds) (1 - au) t a:=by
 ext t au ds;unfold tL;rw[cN];constructor
 .rintro h a ⟨h1,h2,h3,h4⟩;have z:=h a (cO.mpr (by rw[hl];exact h1));have pk:1<=ds.getD a 0%8/\ds.getD a 0%8<=6:=by
   rcases pv a with z | z
   .exact cJ z h2
   .exact z
  unfold Et ro at z;rw[cC h2,eU,cC (p:=ds.getD a 0/8≠au) (by lia),eU,dg,cF,vJ pk,h3] at z;exact z h4
 .intro h a ha;ext a;have ha:=cO.mp ha;rw[hl] at ha;unfold Et;rw[dg];refine eL.mpr λz=>?_;simp only[ax,cA] at z;obtain⟨z1,z2,z3⟩:=z;have pk:1<=ds.getD a 0%8/\ds.getD a 0%8<=6:=by
   rcases pv a with z | z
   .exact cJ z z1
   .exact z
  unfold ro at z3;rw[vJ pk] at z3;have va:=hv a;have e:ds.getD a 0/8=1 - au:=Ly (by assumption) (by assumption) (by assumption);rw[e] at z3;exact h a ⟨ha,z1,e,z3⟩
theorem Av(g:xx F R cs)(hs:au<2):tL F R cs t au=b9↔∀a,¬yZ F R cs (u4 cs) (1 - au) t a:=JZ g.cl.l g.cl.v g.pv hs
theorem WC(g:xx F R cs)(hs:au<2):se (dL F R cc) () au= !tL F R cs (cs.idxOf (au*8+6)) au:=by
 obtain⟨K,hK,hk⟩:=g.king hs;unfold se;rw[z9 g hs hk hK,(xa g.cl.l hK hk).2];rw[de,dg,tA hK (by lia),sT g.cl.l g.cl.v];constructor
 .rintro⟨a,h⟩;refine eL.mpr λz=>(Av g hs).mp z a h
 .intro h;refine cM λz=>?_;rw[(Av (t:=K) g hs).mpr λa ha=>z ⟨a,ha⟩] at h;cases h
theorem tD(h:t∈ou F R cs s):cs.getD t 0=0\/cs.getD t 0/8≠cs.getD s 0/8:=by
 ext s t cs;unfold ou at h;split at h
 .have:=(eo.mp h).2;unfold MK at this;simpa using this
 .rcases cV.mp h with h | h
  .have:=(eo.mp h).2;unfold u9 at this;simp only[ax,cA] at this;exact .inr this.2
  .split at h
   .rename_i e;rw[dX] at h;subst h;exact .inl e
   .cases h
theorem WZ(g:xx F R cs)(hs:au<2):Do F R cs au:=by
 ext au cs;exact λm hm=>by
  ext m;obtain⟨h1,h2,h3,h4⟩:=rE.mp hm;obtain⟨K,hK,hk⟩:=g.king hs;have hl:=g.cl.l;have ot:=tD h4;have tl:=qL g.cl g.pw (by rw[<- hl];exact h1) h4;have mem:∀{l:List Nat} {i x:Nat},i<l.length->l.getD i 0=x->x∈l:=λ{l i x} hi e=>by
   rw[ba,a7 hi] at e;exact e▸du hi
  have kv:=(hk K).mpr rfl;have ne:m.1≠m.2:=λe=>by
   rw[<- e] at ot;rcases ot with z | z
   .exact h2 z
   .exact z rfl
  by_cases e:m.1=K
  .refine mem (i:=m.2) (by unfold oz;simp;lia) ?_;unfold oz;rw[im _ (dT ne),oB (by lia),e,kv]
  .have e2:m.2≠K:=λz=>by
    rw[z,kv,h3] at ot;rcases ot with z | z<;>lia
   refine mem (i:=K) (by unfold oz;simp;lia) ?_;unfold oz;rw[im _ (dT e),im _ (dT e2),kv]
theorem GB(hl:cs.length=F*R)(hs:s<F*R)(ht:t<F*R)(ne:s≠t)(i:Nat):(oz cs s t).getD i 0=if i=s then 0 else if i=t then cs.getD s 0 else cs.getD i 0:=by
 revert i;ext s t cs;unfold oz;by_cases h1:i=s
 .subst h1;rw[cG rfl,oB (by simp;lia)]
 .rw[cH h1,im i h1];by_cases h2:i=t
  .subst h2;rw[cG rfl,oB (by lia)]
  .rw[cH h2,im i h2]
def rX(K s t:Nat):Nat:=if s=K then t else K
theorem EM(g:xx F R cs)(hs:s<F*R)(ht:t<F*R)(ne:s≠t)(own:cs.getD s 0≠0/\cs.getD s 0/8=au)(aX:au<2)(ot:cs.getD t 0=0\/cs.getD t 0/8≠au)(hk:∀i,cs.getD i 0=au*8+6↔i=K)(hK:K<F*R):
  tf F R cs s t=b9↔∀a,a≠t->¬yZ F R cs (zr cs s t) (1 - au) (rX K s t) a:=by
 ext s t au K cs;have hl:=g.cl.l;have ag:=GB hl hs ht ne;have al:(oz cs s t).length=F*R:=by unfold oz;simp [hl]
 have kv:=(hk K).mpr rfl;have kt:K≠t:=λe=>by rw[<- e,kv] at ot;rcases ot with z | z<;>lia
 have ka:∀i,(oz cs s t).getD i 0=au*8+6↔i=rX K s t:=λi=>by
  rw[ag];unfold rX;by_cases h1:i=s
  .subst h1;rw[cG rfl];split
   .exact⟨λh=>by lia,λh=>cJ h ne⟩
   .rename_i h;exact⟨λh=>by lia,λz=>cJ z h⟩
  .rw[cH h1];by_cases h2:i=t
   .subst h2;rw[cG rfl,hk];split
    .rename_i h;exact⟨λ_=>rfl,λ_=>h⟩
    .rename_i h;exact⟨λz=>cJ z h,λz=>cJ z.symm kt⟩
   .rw[cH h2,hk];split
    .rename_i h;subst h;exact⟨λz=>cJ z h1,λz=>cJ z h2⟩
    .exact Iff.rfl
 have kl:rX K s t<F*R:=by unfold rX;split<;>assumption
 unfold tf;rw[own.2,(xa al kl ka).2];have pv:∀i,(oz cs s t).getD i 0=0\/1<=(oz cs s t).getD i 0%8/\(oz cs s t).getD i 0%8<=6:=λi=>by
  rw[ag];split
  .exact .inl rfl
  .split
   .exact g.pv s
   .exact g.pv i
 rw[JZ al (g.cl.after s t).v pv aX];have oc:u4 (oz cs s t)=zr cs s t:=by
  funext x;ext x;unfold u4 zr;rw[ag];by_cases h1:x=s
  .subst h1;rw[cG rfl,cD (p:=x=t) ne];simp
  .rw[cH h1];by_cases h2:x=t
   .subst h2;rw[cG rfl];simp only[decide_true,lZ];exact cC own.1
   .rw[cH h2];simp [h1,h2]
 rw[oc];have iff:∀a,yZ F R (oz cs s t) (zr cs s t) (1 - au) (rX K s t) a↔a≠t/\yZ F R cs (zr cs s t) (1 - au) (rX K s t) a:=λa=>by
  ext a;unfold yZ;rw[ag];by_cases h1:a=s
  .subst h1;rw[cG rfl];exact⟨λh=>cJ rfl h.2.1,λh=>by have:=h.2.2.2.1;lia⟩
  .rw[cH h1];by_cases h2:a=t
   .subst h2;rw[cG rfl];exact⟨λh=>by have:=h.2.2.1;lia,λh=>cJ rfl h.1⟩
   .rw[cH h2];exact⟨λh=>⟨h2,h⟩,λh=>h.2⟩
 constructor
 .intro h a h1 h2;exact h a ((iff a).mpr ⟨h1,h2⟩)
 .intro h a h1;have:=(iff a).mp h1;exact h a this.1 this.2
end
theorem Nf(h1:2 ^ k<=y)(h2:y<2 ^ (k+1)):y.testBit k=b9:=by
 rw[Nat.testBit_eq_decide_div_mod_eq];have:y/2 ^ k=1:=by
  rw[gT] at h2;refine Nat.div_eq_of_lt_le ?_ ?_
  .lia
  .lia
 rw[this];rfl
theorem xL(h0:x≠0):x &&& (x - 1)=0↔∃k,∀i,x.testBit i=b9↔i=k:=by
 ext x;have l1:=Nat.log2_self_le h0;have l2:=Nat.lt_log2_self (n:=x);have b:=Nf l1 l2;constructor
 .intro h;refine⟨x.log2,?_⟩;have e:x=2 ^ x.log2:=by
   refine cM λz=>?_;have b2:=Nf (y:=x - 1) (k:=x.log2) (by lia) (by lia);have:(x &&& (x - 1)).testBit x.log2=b9:=by rw[cU,b,b2];rfl
   rw[h,dy] at this;cases this
  intro i;generalize x.log2=k at e;subst e;rw[dq,cA,eq_comm]
 .rintro⟨k,h⟩;rw[Ic h];exact J5 k
theorem M1(h:∀i,x.testBit i=b9↔i=k):IF x=k:=by rw[Ic h,JP]
section
variable{s t o k a b au az aA av kx c n K d x:Nat}{cs:List Nat}{ay:List V}{p q:Nat->Bool}
theorem tI:(x >>> k) &&& 1≠0↔x.testBit k=b9:=by
 unfold Nat.testBit;rw[Nat.and_comm,bne_iff_ne]
theorem xg(hd:d<8)(hs:s<F*R):(wl F R s d).Nodup/\s∉wl F R s d/\∀d',d'<8->x∈wl F R s d->x∈wl F R s d'->d=d':=by
 ext s d x;have z:=GW T1.dis hd hs;simp only[ax,cA,dg,cF] at z;refine⟨z.1.1,z.1.2,λd' hd' h1 h2=>?_⟩;ext d';have y:=cN.mp z.2 d' (cO.mpr hd');rcases (cW _ _).mp y with y | y
 .exact cy y
 .have:=cN.mp y x h1;rw[cC h2] at this;cases this
theorem NN(ha:a<F*R)(n d:Nat)(h:d+n=8):(Cj (dL F R cc) a b n d<8->Cj (dL F R cc) a b n d<8/\b∈wl F R a (Cj (dL F R cc) a b n d))/\(¬Cj (dL F R cc) a b n d<8->∀d',d<=d'->d'<8->b∉wl F R a d'):=by
 ext a b
 induction n generalizing d with
 | zero=>exact⟨λz=>cJ z (eZ 8),λu d' h1 h2=>cJ h2 (fX.mpr ((h:d=8)▸h1))⟩
 | succ n ih=>
  replace ih:=ih (d+1) (by lia);ext n d;have hd:d<8:=by lia
  have e:((dL F R cc).ray d a >>> b) &&& 1≠0↔b∈wl F R a d:=by rw[tI,xQ hd ha,pC,cA]
  by_cases hb:((dL F R cc).ray d a >>> b) &&& 1≠0
  .rw[show Cj (dL F R cc) a b (n+1) d=d from cG hb];exact⟨λu=>⟨hd,e.mp hb⟩,λz=>cJ hd z⟩
  .rw[show Cj (dL F R cc) a b (n+1) d=Cj (dL F R cc) a b n (d+1) from cH hb];exact⟨ih.1,λz d' h1 h2=>(Nat.eq_or_lt_of_le h1).elim (λq=>q▸λw=>hb (e.mpr w)) λq=>ih.2 z d' q h2⟩
theorem JC(ha:a<F*R)(hd:d<8)(hb:b∈wl F R a d):y6 (dL F R cc) a b=d:=by
 ext a b d;have z:=NN (b:=b) ha 8 0 rfl;by_cases h:Cj (dL F R cc) a b 8 0<8
 .have:=z.1 h;exact((xg this.1 ha).2.2 d hd this.2 hb)
 .exact cJ hb (z.2 h d (dH _) hd)
theorem MR(ha:a<F*R)(h:y6 (dL F R cc) a b<8):b∈wl F R a (y6 (dL F R cc) a b):=((NN (b:=b) ha 8 0 rfl).1 h).2
theorem Wh(h:x∈wl F R a d):x<F*R:=K1 h
theorem Ec(ha:a<F*R)(hb:b<F*R):(Oh (dL F R cc) a b).testBit x=b9↔∃d,d<8/\b∈wl F R a d/\x∈pre b (wl F R a d):=by
 ext a b x;unfold Oh;have main:∀d,d<8->b∈wl F R a d->(((dL F R cc).ray d a &&& (dL F R cc).ray (d ^^^ 2) b).testBit x=b9↔x∈pre b (wl F R a d)):=λd hd hm=>by
  ext d;rw[cU,ax,xQ hd ha,xQ (vR hd).1 hb,pC,pC,cA,cA];rw[<- ((GS hd ha hb).2 hm).2.1,eo,cA]
 constructor
 .intro h;split at h
  .rename_i hd;have hm:=MR ha hd;exact⟨_,hd,hm,(main _ hd hm).mp h⟩
  .rw[dy] at h;cases h
 .rintro⟨d,hd,hm,hx⟩;have e:=JC ha hd hm;rw[e,cG hd];exact(main d hd hm).mpr hx
theorem Re(hs:s<F*R):OW (dL F R cc) s t K=b9↔∃d,d<8/\t∈wl F R s d/\(K∈wl F R s d\/K∈wl F R s (d ^^^ 2)\/s=K):=by
 ext s t K;unfold OW MQ;rw[cA];have e1:∀y:Nat,(y >>> K) &&& 1=1↔y.testBit K=b9:=λy=>by
  ext y;rw[<- tI,WN];have:=dK (y >>> K);lia
 rw[e1];have main:∀d,d<8->(((dL F R cc).ray d s ||| (dL F R cc).ray (d ^^^ 2) s ||| 1 <<< s).testBit K=b9↔K∈wl F R s d\/K∈wl F R s (d ^^^ 2)\/s=K):=λd hd=>by
  rw[dz,dz,xQ hd hs,xQ (vR hd).1 hs,pC,pC,qf,dq];simp only[cW,cA,or_assoc]
 constructor
 .intro h;split at h
  .rename_i hd;exact⟨_,hd,MR hs hd,(main _ hd).mp h⟩
  .rw[dy] at h;cases h
 .rintro⟨d,hd,hm,hx⟩;have e:=JC hs hd hm;rw[e,cG hd];exact(main d hd).mpr hx
def Enm(F R:Nat)(cs:List Nat)(au a:Nat):Prop:=a<F*R/\cs.getD a 0≠0/\cs.getD a 0/8=1 - au
def Lp(F R:Nat)(cs:List Nat)(au K a:Nat):Prop:=Enm F R cs au a/\(cs.getD a 0%8=1/\K∈mo F R a (rO (1 - au))\/cs.getD a 0%8=2/\K∈mo F R a t6\/cs.getD a 0%8=6/\K∈mo F R a oy)
def Sn(F R:Nat)(cs:List Nat)(au K d a:Nat):Prop:=d<8/\Enm F R cs au a/\Yx (cs.getD a 0%8) d/\a∈wl F R K d
theorem NB(hK:K<F*R):yZ F R cs p (1 - au) K a↔Lp F R cs au K a\/∃d,Sn F R cs au K d a/\∀x∈pre a (wl F R K d),p x=cj:=by
 ext a au K cs p;constructor
 .rintro⟨h1,h2,h3,h | h | h | ⟨d,h4,h5,h6⟩⟩
  .exact .inl ⟨⟨h1,h2,h3⟩,.inl h⟩
  .exact .inl ⟨⟨h1,h2,h3⟩,.inr (.inl h)⟩
  .exact .inl ⟨⟨h1,h2,h3⟩,.inr (.inr h)⟩
  .obtain⟨m1,m2⟩:=pY.mp (zO h4 h1 hK h6);exact .inr ⟨d ^^^ 2,⟨(vR h4).1,⟨h1,h2,h3⟩,(CS h4).mpr h5,m1⟩,m2⟩
 .rintro(⟨⟨h1,h2,h3⟩,h⟩ | ⟨d,⟨h4,⟨h1,h2,h3⟩,h5,h6⟩,h7⟩)
  .refine⟨h1,h2,h3,?_⟩;rcases h with h | h | h
   .exact .inl h
   .exact .inr (.inl h)
   .exact .inr (.inr (.inl h))
  .exact⟨h1,h2,h3,.inr (.inr (.inr ⟨d ^^^ 2,(vR h4).1,(CS h4).mpr h5,zO h4 hK h1 (pY.mpr ⟨h6,h7⟩)⟩))⟩
theorem HG(hl:cs.length=F*R)(hv:∀i,cs.getD i 0<16)(hK:K<F*R)(hs:au<2)(hk:().king au=K):(xo (dL F R cc) () au).testBit a=b9↔yZ F R cs (u4 cs) (1 - au) K a:=by
 ext a au az aA av kx K cs ay;unfold xo Q3;rw[hk,cU,ax,sY (by lia)];have ao:=λh1 h2 h3=>HF (cs:=cs) (t:=K) (a:=a) (c:=1 - au) (au:=au) (az:=az) (aA:=aA) (av:=av) (kx:=kx) (ay:=ay) (o:=().all) hK (by lia) h1 h2 h3;rw[sT hl hv] at ao;constructor
 .rintro⟨h,h1,h2,h3⟩;refine⟨h1,h2,h3,(ao h1 h2 h3).mpr ?_⟩;rw[dz,dz,cW,cW] at h;rcases h with(h | h) | h
  .have z:=(zm hK ⋯).mp h;rw[z.2.2.1] at h3;rw[<- h3];exact .inl h
  .have z:=(zm hK ⋯).mp h;rw[z.2.2.1] at h3;rw[<- h3];exact .inl h
  .exact .inr h
 .rintro⟨h1,h2,h3,h4⟩;refine⟨?_,h1,h2,h3⟩;rw[dz,dz,cW,cW];rcases (ao h1 h2 h3).mp h4 with h | h
  .rcases (by lia:1 - au=0\/1 - au=1) with e | e<;>rw[e] at h
   .exact .inl (.inl h)
   .exact .inl (.inr h)
  .exact .inr h
theorem Dv(hK:K<F*R)(hs:au<2)(hk:().king au=K):(qg (dL F R cc) () au).testBit a=b9↔∃d,Sn F R cs au K d a:=by
 ext a au az aA av kx K cs ay;have e:qg (dL F R cc) () au=tX (dL F R cc) () K 0 &&& ().sd (1 - au):=by
  unfold qg tX;rw[hk]
 rw[e,cU,ax,sY (by lia),I9 hK];constructor
 .rintro⟨⟨h1,h2,d,h3,h4,h5⟩,_,_,h6⟩;exact⟨d,h3,⟨h1,h2,h6⟩,h4,(pY.mp h5).1⟩
 .rintro⟨d,h3,⟨h1,h2,h6⟩,h4,h5⟩;exact⟨⟨h1,h2,d,h3,h4,pY.mpr ⟨h5,λx w=>dy x⟩⟩,h1,h2,h6⟩
def Ins(F R:Nat)(cs:List Nat)(au K a x:Nat):Prop:=(∃d,d<8/\a∈wl F R K d/\x∈pre a (wl F R K d))/\cs.getD x 0≠0/\¬∃d,Sn F R cs au K d x
theorem Ju(hl:cs.length=F*R)(hv:∀i,cs.getD i 0<16)(hK:K<F*R)(hs:au<2)(hk:().king au=K)(ha:a<F*R):(qQ (dL F R cc) () au a).testBit x=b9↔Ins F R cs au K a x:=by
 ext a au az aA av kx K x cs ay;unfold qQ Ins;rw[hk,cU,ax,Ec hK ha,fk];have e1:=congrFun (sT (n:=F*R) (au:=au) (az:=az) (aA:=aA) (av:=av) (kx:=kx) (ay:=ay) hl hv) x;have e2:=Dv (a:=x) hK hs hk;rw[e1];unfold u4;refine and_congr_right λw=>?_;by_cases h:∃d,Sn F R cs au K d x
 .rw[e2.mpr h];obtain⟨d,h1,h2,h3⟩:=h;rw[cC h2.2.1];exact⟨λz=>(by cases z),λz=>cJ ⟨d,h1,h2,h3⟩ z.2⟩
 .have:(qg (dL F R cc) () au).testBit x=cj:=eL.mpr λz=>h (e2.mp z);rw[this,jv,cA];exact⟨λz=>⟨z,h⟩,λz=>z.1⟩
theorem ub(h:b<2 ^ 64):m∈oY b↔b.testBit m=b9:=⟨uU,λhb=>JQ.mpr ⟨⟨dH _,GM h hb⟩,hb⟩⟩
theorem QP(l:List Nat)(m:Nat):(l.foldl (xA G P c) m).testBit x=b9↔m.testBit x=b9\/∃a∈l,(qQ G P c a≠0/\qQ G P c a &&& (qQ G P c a - 1)=0)/\(qQ G P c a).testBit x=b9:=by
 ext c x G P
 induction l generalizing m with
 | nil=>exact⟨.inl,λh=>h.elim id λ⟨_,h⟩=>nomatch h.1⟩
 | cons a l ih=>
  replace ih:=ih (xA G P c m a);ext a l m;have e:(xA G P c m a).testBit x=b9↔m.testBit x=b9\/(qQ G P c a≠0/\qQ G P c a &&& (qQ G P c a - 1)=0)/\(qQ G P c a).testBit x=b9:=by
   unfold xA;by_cases h:qQ G P c a≠0/\qQ G P c a &&& (qQ G P c a - 1)=0
   .rw[cG h,dz,cW];exact⟨(·.imp_right (And.intro h)),(·.imp_right And.right)⟩
   .rw[cH h];exact⟨.inl,(·.resolve_right λz=>h z.1)⟩
  rw[ja,ih,e,or_assoc];refine or_congr_right ⟨λh=>h.elim (⟨a,.head _,·⟩) λ⟨b,h⟩=>⟨b,.tail _ h.1,h.2⟩,λ⟨b,h⟩=>(dS.mp h.1).elim (λe=>.inl (e▸h.2)) λq=>.inr ⟨b,q,h.2⟩⟩
theorem SU(hl:cs.length=F*R)(hv:∀i,cs.getD i 0<16)(hK:K<F*R)(hs:au<2)(hk:().king au=K)(s64:qg (dL F R cc) () au<2 ^ 64):
  (Hf (dL F R cc) () au).testBit s=b9↔∃a d,Sn F R cs au K d a/\∀x,Ins F R cs au K a x↔x=s:=by
 ext s au az aA av kx K cs ay;unfold Hf;rw[QP,dy];constructor
 .rintro(h | ⟨a,h1,⟨h2,h3⟩,h4⟩)
  .cases h
  .obtain⟨d,sn⟩:=(Dv hK hs hk).mp ((ub s64).mp h1);obtain⟨k,hk1⟩:=(xL h2).mp h3;have:=(hk1 s).mp h4;subst this;exact⟨a,d,sn,λx=>(Ju hl hv hK hs hk sn.2.1.1).symm.trans (hk1 x)⟩
 .rintro⟨a,d,sn,h⟩;have hb:∀x,(qQ (dL F R cc) () au a).testBit x=b9↔x=s:=λx=>(Ju hl hv hK hs hk sn.2.1.1).trans (h x);have h0:qQ (dL F R cc) () au a≠0:=tx.mpr ⟨s,(hb s).mpr rfl⟩;exact .inr ⟨a,(ub s64).mpr ((Dv hK hs hk).mpr ⟨d,sn⟩),⟨h0,(xL h0).mpr ⟨s,hb⟩⟩,(hb s).mpr rfl⟩
end
section
variable{a b s t x:Nat}
theorem ug{l:List Nat}:x∈pre t l->x∈l:=by
 induction l with
 | nil=>exact id
 | cons y l ih=>exact λh=>dS.mpr ((pd.mp h).2.imp_right ih)
theorem K7{l:List Nat}:x∈pre t l->x≠t:=by
 induction l with
 | nil=>exact λh=>nomatch h
 | cons y l ih=>exact λh=>(pd.mp h).2.elim (·▸(pd.mp h).1) ih
theorem Hz{l:List Nat}:a∈l->b∈l->a=b\/a∈pre b l\/b∈pre a l:=by
 induction l with
 | nil=>exact λh=>nomatch h
 | cons y l ih=>
  intro ha hb;by_cases e1:y=a
  .by_cases e2:y=b
   .exact .inl (e1.symm.trans e2)
   .exact .inr (.inl (pd.mpr ⟨e2,.inl e1.symm⟩))
  .by_cases e2:y=b
   .exact .inr (.inr (pd.mpr ⟨e1,.inl e2.symm⟩))
   .exact(ih (gY (dT e1) ha) (gY (dT e2) hb)).imp_right (·.imp (λh=>pd.mpr ⟨e2,.inr h⟩) λh=>pd.mpr ⟨e1,.inr h⟩)
theorem AV{l:List Nat}:s∈pre a l->t∈pre s l->t∈pre a l:=by
 induction l with
 | nil=>exact λh=>nomatch h
 | cons y l ih=>exact λh1 h2=>pd.mpr ⟨(pd.mp h1).1,(pd.mp h2).2.imp_right λh=>(pd.mp h1).2.elim (λe=>cJ e.symm (pd.mp h2).1) (ih · h)⟩
theorem MC:∀{l1:List Nat},a∉l1->a≠s->pre a (l1++s::l2)=l1++s::pre a l2
 | [],_,h=>by rw[fF,Dh,cH (dT h),fF]
 | y::l1,h1,h2=>by
  rw[eD,Dh,cH (λe:y=a=>h1 (by rw[e];exact .head _)),MC (λz=>h1 (.tail _ z)) h2];rfl
theorem Rm{P:Nat->Prop}{l:List Nat}:a∈l->P a->∃b,b∈l/\P b/\(∀x∈pre b l,¬P x)/\∀x∈pre b l,x∈pre a l:=by
 induction l with
 | nil=>exact λh=>nomatch h
 | cons y l ih=>
  intro h hp;by_cases hy:P y
  .exact⟨y,.head _,hy,λx hx=>cJ rfl (pd.mp hx).1,λx hx=>cJ rfl (pd.mp hx).1⟩
  .have ya:y≠a:=λe=>hy (e▸hp);exact(ih (gY ya.symm h) hp).elim λb r=>⟨b,.tail _ r.1,r.2.1,λx hx=>(pd.mp hx).2.elim (·▸hy) (r.2.2.1 x),λx hx=>pd.mpr ⟨ya,(pd.mp hx).2.imp_right (r.2.2.2 x)⟩⟩
end
section
variable{s t a d au K x:Nat}{cs:List Nat}
def L1(F R:Nat)(cs:List Nat)(au K t:Nat):Prop:=∀a,Lp F R cs au K a->a=t
def Clr(F R:Nat)(cs:List Nat)(K d a:Nat):Prop:=∀x∈pre a (wl F R K d),u4 cs x=cj
def Pin(F R:Nat)(cs:List Nat)(K d a s:Nat):Prop:=s∈pre a (wl F R K d)/\∀x∈pre a (wl F R K d),x≠s->u4 cs x=cj
def On(F R K t d a:Nat):Prop:=t=a\/t∈pre a (wl F R K d)
def L2(F R:Nat)(cs:List Nat)(au K s t:Nat):Prop:=∀a d,Sn F R cs au K d a->Clr F R cs K d a\/Pin F R cs K d a s->On F R K t d a
theorem OL(hK:K<F*R):(∀a,a≠t->¬yZ F R cs (zr cs s t) (1 - au) K a)↔L1 F R cs au K t/\L2 F R cs au K s t:=by
 ext s t au K cs;have ot:zr cs s t t=b9:=by unfold zr;simp
 constructor
 .intro h;refine⟨λa la=>cM λz=>h a z ((NB hK).mpr (.inl la)),λa d sn hc=>cM λz=>?_⟩;unfold On at z;have z1:t≠a:=λe=>z (.inl e);have z2:t∉pre a (wl F R K d):=λe=>z (.inr e);refine h a (dT z1) ((NB hK).mpr (.inr ⟨d,sn,λx hx=>?_⟩));have xt:x≠t:=λe=>z2 (e▸hx);unfold zr;rw[cD xt,fy];rcases hc with hc | hc
  .have:=hc x hx;unfold u4 at this;rw[this];rfl
  .by_cases e:x=s
   .simp [e]
   .have:=hc.2 x hx e;unfold u4 at this;rw[this];rfl
 .rintro⟨h1,h2⟩ a na ha;rcases (NB hK).mp ha with la | ⟨d,sn,hc⟩
  .exact na (h1 a la)
  .have nt:t∉pre a (wl F R K d):=λe=>by have:=hc t e;rw[ot] at this;cases this
   have free:∀x∈pre a (wl F R K d),x≠s->u4 cs x=cj:=λx hx e=>by
    have:=hc x hx;unfold zr at this;unfold u4;simp only[fN,f9] at this;rcases this.2 with z | z
    .exact z
    .simp [e] at z
   have on:On F R K t d a:=by
    by_cases hs:s∈pre a (wl F R K d)
    .exact h2 a d sn (.inr ⟨hs,free⟩)
    .exact h2 a d sn (.inl λx hx=>free x hx λe=>hs (e▸hx))
   rcases on with z | z
   .exact na z.symm
   .exact nt z
def Ck(F R:Nat)(cs:List Nat)(au K a:Nat):Prop:=yZ F R cs (u4 cs) (1 - au) K a
def C1(F R:Nat)(cs:List Nat)(au K t:Nat):Prop:=(∃a,Ck F R cs au K a)->∃a,(∀a',Ck F R cs au K a'↔a'=a)/\(t=a\/∃d,d<8/\a∈wl F R K d/\t∈pre a (wl F R K d))
def Hd(F R:Nat)(cs:List Nat)(au K s:Nat):Prop:=∃a d,Sn F R cs au K d a/\∀x,Ins F R cs au K a x↔x=s
def Al(F R K s t:Nat):Prop:=∃d,d<8/\t∈wl F R s d/\(K∈wl F R s d\/K∈wl F R s (d ^^^ 2)\/s=K)
theorem yO(h:Enm F R cs au a):u4 cs a=b9:=by unfold u4;exact cC h.2.1
theorem Hm(hK:K<F*R):Ck F R cs au K a↔Lp F R cs au K a\/∃d,Sn F R cs au K d a/\Clr F R cs K d a:=NB hK
theorem Sg(hs:au<2)(hK:K<F*R)(h:Lp F R cs au K a)(hd:d<8)(ha:a∈wl F R K d):pre a (wl F R K d)=[]:=by
 ext a d au K cs;obtain⟨⟨a1,a2,a3⟩,h⟩:=h;have z:=ue T1.adj hK a1;unfold DR at z;simp only[ax,cW,dg,cF] at z;have kg:a∈mo F R K oy->pre a (wl F R K d)=[]:=λh=>by
  rcases z.1.1.1.1 with y | y
  .exact cJ h y
  .obtain⟨d',hd',y⟩:=ez.mp y;rw[ax,cA,cA] at y;have:=(xg (cO.mp hd') hK).2.2 d hd y.1 ha;rw[<- this];exact y.2
 rcases h with⟨_,h⟩ | ⟨_,h⟩ | ⟨_,h⟩
 .have h':=(EU a1 hK (c:=1 - au) (by lia)).mp h;rcases z.1.1.2 with y | y
  .rw[fN,cF,cF] at y;have e:1 - (1 - au)=0\/1 - (1 - au)=1:=by lia
   rcases e with e | e<;>rw[e] at h'
   .exact cJ h' y.1
   .exact cJ h' y.2
  .exact kg (cy y)
 .have h':=(su a1 hK).2.1.mp h;rcases z.1.1.1.2 with y | y
  .exact cJ h' y
  .have:=cN.mp y d (cO.mpr hd);rw[cC ha] at this;cases this
 .exact kg ((su a1 hK).1.mp h)
theorem abe(aX:au<2)(hK:K<F*R)(ls:s<F*R)(lt:t<F*R)(os:cs.getD s 0≠0/\cs.getD s 0/8=au)(oK:cs.getD K 0≠0)(sK:s≠K)(tK:t≠K)(st:s≠t)(path:∀d,d<8->t∈wl F R s d->∀x∈pre t (wl F R s d),u4 cs x=cj):
  L1 F R cs au K t/\L2 F R cs au K s t↔C1 F R cs au K t/\(¬Hd F R cs au K s\/Al F R K s t):=by
 ext s t au K cs;have uniq:∀{x d d'},d<8->d'<8->x∈wl F R K d->x∈wl F R K d'->d=d':=λhd hd' h1 h2=>(xg hd hK).2.2 _ hd' h1 h2;have nsn:∀d,¬Sn F R cs au K d s:=λd h=>by have:=h.2.1.2.2;rw[os.2] at this;lia
 constructor
 .rintro⟨l1,l2⟩;refine⟨λ_=>?_,?_⟩
  .rename_i ex;obtain⟨a0,c0⟩:=ex;have cond:∀a,Ck F R cs au K a->(a=t/\Lp F R cs au K a)\/∃d,Sn F R cs au K d a/\Clr F R cs K d a/\On F R K t d a:=λa ca=>by
    rcases (Hm hK).mp ca with h | ⟨d,h1,h2⟩
    .exact .inl ⟨l1 a h,h⟩
    .exact .inr ⟨d,h1,h2,l2 a d h1 (.inl h2)⟩
   have un:∀a a',Ck F R cs au K a->Ck F R cs au K a'->a'=a:=λa a' ca ca'=>by
    rcases cond a ca with⟨e1,p1⟩ | ⟨d,s1,c1,o1⟩<;>rcases cond a' ca' with⟨e2,p2⟩ | ⟨d',s2,c2,o2⟩
    .rw[e1,e2]
    .rcases o2 with o2 | o2
     .rw[e1,o2]
     .have:=c2 t o2;rw[<- e1,yO p1.1] at this;cases this
    .rcases o1 with o1 | o1
     .rw[e2,o1]
     .have:=c1 t o1;rw[<- e2,yO p2.1] at this;cases this
    .rcases o1 with o1 | o1<;>rcases o2 with o2 | o2
     .rw[<- o1,<-o2]
     .have:=c2 t o2;rw[o1,yO s1.2.1] at this;cases this
     .have:=c1 t o1;rw[o2,yO s2.2.1] at this;cases this
     .have e:=uniq s1.1 s2.1 (ug o1) (ug o2);subst e;rcases Hz s1.2.2.2 s2.2.2.2 with h | h | h
      .exact h.symm
      .have:=c2 a h;rw[yO s1.2.1] at this;cases this
      .have:=c1 a' h;rw[yO s2.2.1] at this;cases this
   refine⟨a0,λa'=>⟨λh=>un a0 a' c0 h,λe=>e▸c0⟩,?_⟩;rcases cond a0 c0 with⟨e1,_⟩ | ⟨d,s1,c1,o1 | o1⟩
   .exact .inl e1.symm
   .exact .inl o1
   .exact .inr ⟨d,s1.1,s1.2.2.2,o1⟩
  .by_cases hd:Hd F R cs au K s
   .right;obtain⟨a,d,sn,hi⟩:=hd;ext a d;obtain⟨⟨d',hd',am,sp⟩,_,_⟩:=(hi s).mpr rfl;have e:=uniq sn.1 hd' sn.2.2.2 am;subst e;obtain⟨b,b1,b2,b3,b4⟩:=Rm (P:=λy=>Sn F R cs au K d y) am sn;have free:∀x∈pre b (wl F R K d),x≠s->u4 cs x=cj:=λx hx e=>by
     unfold u4;refine cD λh0=>e ((hi x).mp ⟨⟨d,sn.1,am,b4 x hx⟩,h0,?_⟩);rintro⟨d2,s2⟩;have:=uniq s2.1 sn.1 s2.2.2.2 (ug hx);subst this;exact b3 x hx s2
    have on:On F R K t d b:=by
     by_cases hs:s∈pre b (wl F R K d)
     .exact l2 b d b2 (.inr ⟨hs,free⟩)
     .exact l2 b d b2 (.inl λx hx=>free x hx λe=>hs (e▸hx))
    have tm:t∈wl F R K d:=by
     rcases on with h | h
     .rw[h];exact b1
     .exact ug h
    have sm:=ug sp;obtain⟨y1,y2⟩:=GS sn.1 hK ls;obtain⟨y3,_,y5⟩:=y2 sm;have kw:=y1.mp sm;rw[y5] at tm;rcases cV.mp tm with h | h
    .refine⟨d ^^^ 2,(vR sn.1).1,?_,.inl kw⟩;have:t∈pre K (wl F R s (d ^^^ 2)):=by rw[y3];exact iS.mpr h
     exact ug this
    .cases h with
     | head=>exact cJ rfl st
     | tail _ h=>exact⟨d,sn.1,h,.inr (.inl kw)⟩
   .exact .inl hd
 .rintro⟨c1,c2⟩;refine⟨λa la=>?_,λa d sn hc=>?_⟩
  .have ca:=(Hm hK).mpr (.inl la);obtain⟨a0,u,h⟩:=c1 ⟨a,ca⟩;have:=(u a).mp ca;subst this;rcases h with h | ⟨d,hd,h1,h2⟩
   .exact h.symm
   .rw[Sg aX hK la hd h1] at h2;cases h2
  .rcases hc with hc | hc
   .have ca:=(Hm hK).mpr (.inr ⟨d,sn,hc⟩);obtain⟨a0,u,h⟩:=c1 ⟨a,ca⟩;have:=(u a).mp ca;subst this;rcases h with h | ⟨d',hd',h1,h2⟩
    .exact .inl h
    .have:=uniq sn.1 hd' sn.2.2.2 h1;subst this;exact .inr h2
   .have hh:Hd F R cs au K s:=⟨a,d,sn,λx=>by
     constructor
     .rintro⟨⟨d',hd',h1,h2⟩,h3,_⟩;have:=uniq sn.1 hd' sn.2.2.2 h1;subst this;refine cM λz=>?_;have:=hc.2 x h2 z;unfold u4 at this;rw[cC h3] at this;cases this
     .intro e;subst e;exact⟨⟨d,sn.1,sn.2.2.2,hc.1⟩,os.1,λ⟨d',h⟩=>nsn d' h⟩⟩
    rcases c2 with z | ⟨d',hd',tm,z⟩
    .exact cJ hh z
    have sm:=ug hc.1;obtain⟨y1,y2⟩:=GS sn.1 hK ls;obtain⟨y3,_,y5⟩:=y2 sm;have kw:=y1.mp sm;have us:∀{e e':Nat},e<8->e'<8->K∈wl F R s e->K∈wl F R s e'->e=e':=λh1 h2 h3 h4=>(xg h1 ls).2.2 _ h2 h3 h4;rcases z with z | z | z
    .have e:=us hd' (vR sn.1).1 z kw;subst e;have pt:=path _ hd' tm;rcases Hz tm z with h | h | h
     .exact cJ h tK
     .rw[y3] at h;exact .inr (AV hc.1 (iS.mp h))
     .have:=pt K h;unfold u4 at this;rw[cC oK] at this;cases this
    .have e:=us (vR hd').1 (vR sn.1).1 z kw;have e2:d'=d:=by
      have:=cI (λy=>y ^^^ 2) e;simp only[(vR hd').2.1,(vR sn.1).2.1] at this;exact this
     subst e2;have am:=sn.2.2.2;have na:a≠s:=λe=>nsn d' (e▸sn);have nap:a∉pre s (wl F R K d'):=λh=>by
      have:=AV h hc.1;exact K7 this rfl
     have aw:a∈wl F R s d':=by
      rw[y5] at am;rcases cV.mp am with h | h
      .exact cJ h nap
      .cases h with
       | head=>exact cJ rfl na
       | tail _ h=>exact h
     have pa:pre a (wl F R K d')=pre s (wl F R K d')++s::pre a (wl F R s d'):=by
      have:=MC (l2:=wl F R s d') nap na;rw[<- y5] at this;exact this
     rcases Hz tm aw with h | h | h
     .exact .inl h
     .exact .inr (by rw[pa];exact cV.mpr (.inr (.tail _ h)))
     .have:=path d' hd' tm a h;rw[yO sn.2.1] at this;cases this
    .exact cJ z sK
end
structure UY (F R:Nat):Prop where
 fwd:Qc F R (λs t=>DR (cu (t=s+F)||decide (s=t+F)) (cu (t∈mo F R s oy)))=b9
theorem TX:UY 3 4:=⟨by decide +kernel⟩
theorem UP:UY 7 3:=⟨by decide +kernel⟩
theorem T2:UY F R:=KY (C:=λF R w=>UY F R) TX UP
section
variable{s t a d au az aA av kx K x:Nat}{cs:List Nat}{ay:List V}
theorem IS(hs:s<F*R)(ht:t<F*R)(h:t∈mo F R s oy)(hd:d<8)(hm:t∈wl F R s d):pre t (wl F R s d)=[]:=by
 have z:=ue T1.adj hs ht;unfold DR at z;simp only[ax,cW,dg,cF] at z;rcases z.1.1.1.1 with y | y
 .exact cJ h y
 .obtain⟨d',hd',y⟩:=ez.mp y;rw[ax,cA,cA] at y;have:=(xg (cO.mp hd') hs).2.2 d hd y.1 hm;rw[<- this];exact y.2
theorem PQ(hs:s<F*R)(ht:t<F*R)(h:t∈mo F R s t6)(hd:d<8):t∉wl F R s d:=λhm=>by
 ext s t d;have z:=ue T1.adj hs ht;unfold DR at z;simp only[ax,cW,dg,cF] at z;rcases z.1.1.1.2 with y | y
 .exact cJ h y
 .have:=cN.mp y d (cO.mpr hd);rw[cC hm] at this;cases this
theorem Gb(hs:s<F*R)(ht:t<F*R)(hc:au<2)(h:t∈mo F R s (rO au)):t∈mo F R s oy:=by
 have z:=ue T1.adj hs ht;unfold DR at z;simp only[ax,cW,dg,cF] at z;rcases z.1.1.2 with y | y
 .rw[fN,cF,cF] at y;rcases (u2 (by assumption:au<2)) with e | e<;>rw[e] at h
  .exact cJ h y.1
  .exact cJ h y.2
 .exact cy y
theorem Q5(hs:s<F*R):s∉mo F R s oy/\s∉mo F R s t6:=by
 have z:=ue T1.adj hs hs;simp only[ax,dg,cF] at z;exact⟨z.1.2,z.2⟩
theorem yF(g:xx F R cs)(h0:cs.getD s 0≠0)(h:t∈ou F R cs s):xZ F R (u4 cs) (cs.getD s 0%8) (cs.getD s 0/8) s t/\(cs.getD s 0%8=1->cs.getD t 0≠0)\/cs.getD s 0%8=1/\t=sD F (cs.getD s 0/8) s/\cs.getD t 0=0:=by
 ext s t cs;unfold ou ro at h;have pk:=Mn g h0;split at h
 .rename_i e1;have:=(eo.mp h).1;exact .inl ⟨(vJ pk).mp this,λz=>cJ z e1⟩
 .rename_i e1;rcases cV.mp h with h | h
  .have h2:=(eo.mp h).2;unfold u9 at h2;rw[ax,cA] at h2;exact .inl ⟨(vJ pk).mp (eo.mp h).1,λ_=>h2.1⟩
  .split at h
   .rename_i e2;rw[dX] at h;subst h;exact .inr ⟨cM e1,rfl,e2⟩
   .cases h
theorem LH(hs:s<F*R)(ht:t<F*R)(hc:au<2)(hp:F<=s)(h:t=sD F au s):t∈mo F R s oy:=by
 ext s t au;have z:=ue T2.fwd hs ht;unfold DR at z;simp only[cW,dg,fN,cF,cA] at z;rcases z with z | z
 .exfalso;unfold sD at h;rcases (u2 (by assumption:au<2)) with e | e
  .subst e;exact z.1 (by lia)
  .subst e;exact z.2 (by lia)
 .exact z
theorem Pg(g:xx F R cs)(hs:s<F*R)(h0:cs.getD s 0≠0)(h6:cs.getD s 0%8≠6)(h:t∈ou F R cs s)(hd:d<8)(hm:t∈wl F R s d)(hx:x∈pre t (wl F R s d)):u4 cs x=cj:=by
 ext s t d x cs;have ht:=qL g.cl g.pw hs h;have c2:=g.cl.sd s;rcases yF g h0 h with⟨⟨h1,h2⟩ | ⟨h1,h2⟩ | ⟨h1,h2⟩ | ⟨d',hd',h1,h2⟩,_⟩ | ⟨h1,h2,_⟩
 .rw[IS hs ht (Gb hs ht c2 h2) hd hm] at hx;cases hx
 .exact cJ hm (PQ hs ht h2 hd)
 .exact cJ h1 h6
 .obtain⟨m1,m2⟩:=pY.mp h2;have:=(xg hd' hs).2.2 d hd m1 hm;subst this;exact m2 x hx
 .have pw:=g.pw s hs h1;rw[IS hs ht (LH hs ht c2 pw.1 h2) hd hm] at hx;cases hx
theorem LT(g:xx F R cs)(hs:au<2)(hK:K<F*R)(hk:().king au=K)(ex:∃a,Ck F R cs au K a):(t8 (dL F R cc) ()).testBit t=b9↔∃a,(∀a',Ck F R cs au K a'↔a'=a)/\(t=a\/∃d,d<8/\a∈wl F R K d/\t∈pre a (wl F R K d)):=by
 ext t au az aA av kx K cs ay;unfold t8 JN;have aX:().au=au:=rfl;rw[aX,hk];have cb:=λa=>HG (a:=a) (az:=az) (aA:=aA) (av:=av) (kx:=kx) (ay:=ay) g.cl.l g.cl.v hK hs hk;generalize xo (dL F R cc) () au=gv at cb;have g0:gv≠0:=by
  obtain⟨a,ha⟩:=ex;exact tx.mpr ⟨a,(cb a).mpr ha⟩
 by_cases h1:gv &&& (gv - 1)=0
 .obtain⟨k,hk1⟩:=(xL g0).mp h1;have lk:=M1 hk1;have kn:k<F*R:=((cb k).mp ((hk1 k).mpr rfl)).1;rw[cH (by rintro(z | z);exact g0 z;exact z h1),lk,dz,cW,Ec hK kn,hk1];constructor
  .intro h;exact⟨k,λa'=>(cb a').symm.trans (hk1 a'),h⟩
  .rintro⟨a,u,h⟩;have:k=a:=(u k).mp ((cb k).mp ((hk1 k).mpr rfl));subst this;exact h
 .rw[cG (.inr h1),dy];constructor
  .intro h;cases h
  .rintro⟨a,u,_⟩;exact cJ ((xL g0).mpr ⟨a,λi=>(cb i).trans (u i)⟩) h1
theorem TE(hz:F*R<=21)(hs:au<2):qg (dL F R cc) () au<2 ^ 64:=by
 refine ar dF ?_;have e:().sd (1 - au)=rH (λs=>cu (cs.getD s 0≠0)&&cu (cs.getD s 0/8=1 - au)) (F*R):=EC (by lia);rw[e];exact cX (vw _ _) (fO ⋯ (by lia))
theorem yY(g:xx F R cs)(aX:au<2)(hk:∀i,cs.getD i 0=au*8+6↔i=K)(hK:K<F*R)(ls:s<F*R)(own:cs.getD s 0≠0/\cs.getD s 0/8=au)(sK:s≠K)(h:t∈ou F R cs s):
  tf F R cs s t=b9↔(se (dL F R cc) () au=b9->(t8 (dL F R cc) ()).testBit t=b9)/\((Cm (dL F R cc) ()).testBit s=cj\/OW (dL F R cc) s t K=b9):=by
 ext s t au az aA av kx K cs ay;have lt:=qL g.cl g.pw ls h;have ot:=tD h;rw[own.2] at ot;have st:s≠t:=λe=>by rw[<- e] at ot;rcases ot with z | z;exact own.1 z;exact z own.2
 have kv:=(hk K).mpr rfl;have tK:t≠K:=λe=>by rw[e,kv] at ot;rcases ot with z | z<;>lia
 have h6:cs.getD s 0%8≠6:=λe=>sK ((hk s).mp (by have:=own.2;lia));have kq:=z9 (au:=au) (az:=az) (aA:=aA) (av:=av) (kx:=kx) (ay:=ay) g aX hk hK;have ka:rX K s t=K:=cH sK;rw[EM g ls lt st own aX ot hk hK,ka,OL hK,abe aX hK ls lt own (by lia) sK tK st (λd hd hm x hx=>Pg g ls own.1 h6 h hd hm hx)];have c1:C1 F R cs au K t↔(se (dL F R cc) () au=b9->(t8 (dL F R cc) ()).testBit t=b9):=by
  have ic:se (dL F R cc) () au=b9↔∃a,Ck F R cs au K a:=by
   unfold se;rw[kq,tA hK (by lia),sT g.cl.l g.cl.v];rfl
  rw[ic];unfold C1;constructor
  .intro z ex;exact(LT g aX hK kq ex).mpr (z ex)
  .intro z ex;exact(LT g aX hK kq ex).mp (z ex)
 have c2:(¬Hd F R cs au K s)↔(Cm (dL F R cc) ()).testBit s=cj:=by
  have hb:=SU (s:=s) (az:=az) (aA:=aA) (av:=av) (kx:=kx) (ay:=ay) g.cl.l g.cl.v hK aX kq (TE g.cl.bd.sz aX);have e:(Cm (dL F R cc) ()).testBit s=b9↔Hd F R cs au K s:=by
   unfold Cm;have aY:().au=au:=rfl;rw[aY,cU,ax,sY aX,hb];exact⟨λz=>z.1,λz=>⟨z,ls,own.1,own.2⟩⟩
  rw[<- e,iR]
 rw[c1,c2,Re ls];rfl
theorem GN(ha:a<F*R)(h:∀x,x≠t->p x=q x)(hh:xZ F R p k c a t):xZ F R q k c a t:=by
 ext t a p q k c;rcases hh with h1 | h1 | h1 | ⟨d,h1,h2,h3⟩
 .exact .inl h1
 .exact .inr (.inl h1)
 .exact .inr (.inr (.inl h1))
 .obtain⟨m1,m2⟩:=pY.mp h3;exact .inr (.inr (.inr ⟨d,h1,h2,pY.mpr ⟨m1,λx hx=>(h x (K7 hx))▸m2 x hx⟩⟩))
theorem NQ(hc:c<2)(ht:t<F*R):¬xZ F R p k c t t:=by
 ext t p k c;have so:=Q5 ht;rintro(⟨_,h⟩ | ⟨_,h⟩ | ⟨_,h⟩ | ⟨d,h1,h2,h3⟩)
 .exact so.1 (Gb ht ht hc h)
 .exact so.2 h
 .exact so.1 h
 .exact(xg (x:=t) h1 ht).2.1 (pY.mp h3).1
theorem Bt(g:xx F R cs)(aX:au<2)(hk:∀i,cs.getD i 0=au*8+6↔i=K)(hK:K<F*R)(lt:t<F*R)(ot:cs.getD t 0=0\/cs.getD t 0/8≠au):
  tf F R cs K t=b9↔uE (dL F R cc) () t (1 - au) (().all ^^^ 1 <<< K)=cj:=by
 ext t au az aA av kx K cs ay;have kv:=(hk K).mpr rfl;have own:cs.getD K 0≠0/\cs.getD K 0/8=au:=⟨by lia,by lia⟩
 have st:K≠t:=λe=>by rw[<- e] at ot;rcases ot with z | z;exact own.1 z;exact z own.2
 have ka:rX K K t=t:=cG rfl;rw[EM g hK lt st own aX ot hk hK,ka];have e1:∀x,x≠t->zr cs K t x=(().all ^^^ 1 <<< K).testBit x:=λx hx=>by
  ext x;have e:=congrFun (sT (n:=F*R) (au:=au) (az:=az) (aA:=aA) (av:=av) (kx:=kx) (ay:=ay) g.cl.l g.cl.v) x;rw[fk,e,qf,dq];unfold zr u4;rw[cD hx,fy];by_cases h:x=K
  .subst h;rw[cC own.1,cC (p:=x=x) rfl];rfl
  .rw[cD h,cD (p:=K=x) (λz=>h z.symm)];simp
 rw[<- iR,tA lt (by lia)];constructor
 .rintro h ⟨a,h1,h2,h3,h4⟩;have at':a≠t:=λe=>by rw[e] at h4;exact NQ (by lia) lt h4
  exact h a at' ⟨h1,h2,h3,GN h1 (λx hx=>(e1 x hx).symm) h4⟩
 .rintro h a _ ⟨h1,h2,h3,h4⟩;exact h ⟨a,h1,h2,h3,GN h1 e1 h4⟩
end
def KZ(F c:Nat):Int:=if c=0 then(F:Int) else -(F:Int)
def xd(F c wg s g:Nat):Bool:=if wg=0 then cu (s%F≠F - 1)&&cu ((g:Int)=s+KZ F c+1) else cu (s%F≠0)&&cu ((g:Int)=s+KZ F c - 1)
structure Tg (F R:Nat):Prop where
 cap:Qc F R (λs g=>(cn 2).all λc=>GY (cu (g∈mo F R s (rO c))) (xd F c 0 s g||xd F c 1 s g))=b9
theorem UL:Tg 3 4:=⟨by decide +kernel⟩
theorem Th:Tg 7 3:=⟨by decide +kernel⟩
theorem T3:Tg F R:=KY (C:=λF R w=>Tg F R) UL Th
theorem WQ:((cn 21).all λo=>(cn 21).all λt=>(cn 4).all λs=>(cn 4).all λf=>cu (qW (oT o t s f)=o/\qG (oT o t s f)=t/\u0 (oT o t s f)=s))=b9:=by decide +kernel
theorem Ae(ho:o<21)(ht:t<21)(hs:s<4)(hf:f<4):qW (oT o t s f)=o/\qG (oT o t s f)=t/\u0 (oT o t s f)=s:=
 cy (cN.mp (cN.mp (cN.mp (cN.mp WQ o (cO.mpr ho)) t (cO.mpr ht)) s (cO.mpr hs)) f (cO.mpr hf))
theorem qk(a b i:Nat):(oq a b).testBit i=(a.testBit i&& !b.testBit i):=by
 ext a b i;have e:oq a b=a ^^^ (a &&& b):=by
  unfold oq;have x:=Ii a (a &&& b);have:a &&& (a &&& b)=a &&& b:=by rw[<- iU,j6]
  rw[this] at x;have:=KS a b;lia
 rw[e,fk,cU];cases a.testBit i<;>cases b.testBit i<;>rfl
section
variable{s t a d g au az aA av kx K x c n st tg m:Nat}{cs:List Nat}{ay:List V}
theorem ur:(dL F R cc).av.testBit x=cu (x<F*R):=by
 unfold pf.av;have:(dL F R cc).size=F*R:=rfl;rw[this,qf,jm]
theorem Hk(hf:f<F):((dL F R cc).fm.getD f 0).testBit x=(cu (x<F*R)&&cu (x%F=f)):=by
 have e:(dL F R cc).fm.getD f 0=rM ((cn (F*R)).filter λs=>s%F == f):=o9 hf;rw[e,pC,de];simp only[cA,eo,cO,beq_iff_eq,ax]
theorem Kr:fwd (dL F R cc) c=KZ F c:=rfl
def Pn(F R:Nat)(cs:List Nat)(c s:Nat):Prop:=s<F*R/\cs.getD s 0≠0/\cs.getD s 0/8=c/\cs.getD s 0%8=1
theorem AF(hc:c<2):(().sd c &&& ().kd 1).testBit s=b9↔Pn F R cs c s:=by
 rw[cU,ax,sY hc,qZ ⋯];unfold Pn;exact⟨λ⟨⟨h1,h2,h3⟩,_,_,h4⟩=>⟨h1,h2,h3,h4⟩,λ⟨h1,h2,h3,h4⟩=>⟨⟨h1,h2,h3⟩,h1,h2,h4⟩⟩
theorem Iv(hF:1<=F)(hl:cs.length=F*R)(hv:∀i,cs.getD i 0<16)(hc:c<2):(u8 (dL F R cc) () c).testBit g=b9↔g<F*R/\cs.getD g 0=0/\∃s,Pn F R cs c s/\(g:Int)=s+KZ F c:=by
 ext g au az aA av kx c cs ay;unfold u8 PG;have al:=congrFun (sT (n:=F*R) (au:=au) (az:=az) (aA:=aA) (av:=av) (kx:=kx) (ay:=ay) hl hv) g;rw[cU,ax,qk,ur,al];unfold u4;have fl:(dL F R cc).files=F:=rfl;rw[fl];simp only[ax,cA,dg,cF,me];rcases (u2 (by assumption:c<2)) with e | e<;>subst e
 .rw[cG rfl,cU,ax,eJ,ax,cA,AF ⋯];unfold KZ;rw[cG rfl];constructor
  .rintro⟨⟨⟨h1,h2⟩,_⟩,h3,h4⟩;exact⟨h3,h4,_,h2,by lia⟩
  .rintro⟨h3,h4,s,h2,h5⟩;ext s;have:s=g - F:=by lia
   subst this;exact⟨⟨⟨by lia,h2⟩,by rw[ur];exact cC h3⟩,h3,h4⟩
 .rw[cH ⋯,fA,AF ⋯];unfold KZ;rw[cH ⋯];constructor
  .rintro⟨h2,h3,h4⟩;exact⟨h3,h4,_,h2,by lia⟩
  .rintro⟨h3,h4,s,h2,h5⟩;have:s=F+g:=by lia
   subst this;exact⟨h2,h3,h4⟩
theorem IY(hF:2<=F)(hc:au<2)(hw:c<2):(tO (dL F R cc) () tg c).testBit g=b9↔tg.testBit g=b9/\(g<F*R/\cs.getD g 0≠0/\cs.getD g 0/8=1 - au)/\∃s,Pn F R cs au s/\xd F au c s g=b9:=by
 ext g au az aA av kx c tg cs ay;unfold tO;have aX:().au=au:=rfl;have fl:(dL F R cc).files=F:=rfl;rw[aX,cU,cU,ax,ax,sY (by lia)];have key:g<F*R->((Xl (dL F R cc) (().sd au &&& ().kd 1) au c).testBit g=b9↔∃s,Pn F R cs au s/\xd F au c s g=b9):=λhg=>by
  unfold Xl PG xd KZ;rw[fl];rcases (u2 (by assumption:c<2)) with e | e<;>subst e
  .simp only[↓reduceIte];rcases (u2 (by assumption:au<2)) with e | e<;>subst e
   .simp only[↓reduceIte];rw[eJ,cU,eJ,qk,Hk (by lia),ur];simp only[ax,cA,dg,f9,cF,AF (show 0<2 by decide)];constructor
    .rintro⟨h1,⟨h2,h3,h4⟩,h5⟩;exact⟨_,h3,by rcases h4 with z | z;exact cJ h3.1 z;exact z,by lia⟩
    .rintro⟨s,h3,h4,h6⟩;have:s=g - 1 - F:=by lia
     subst this;exact⟨by lia,⟨by lia,h3,.inr h4⟩,by lia⟩
   .simp only[i6,↓reduceIte];rw[eJ,fA,qk,Hk (by lia)];simp only[ax,cA,dg,f9,cF,AF (show 1<2 by decide)];constructor
    .rintro⟨h1,h3,h4⟩;exact⟨_,h3,by rcases h4 with z | z;exact cJ h3.1 z;exact z,by lia⟩
    .rintro⟨s,h3,h4,h6⟩;have hs1:s≠F - 1:=λe=>h4 (by rw[e];exact hZ (by lia));have:s=F+(g - 1):=by lia
     subst this;exact⟨by lia,h3,.inr h4⟩
  .simp only[i6,↓reduceIte];rcases (u2 (by assumption:au<2)) with e | e<;>subst e
   .simp only[↓reduceIte];rw[fA,cU,eJ,qk,Hk (by lia),ur];simp only[ax,cA,dg,f9,cF,AF (show 0<2 by decide)];constructor
    .rintro⟨⟨h2,h3,h4⟩,h5⟩;exact⟨_,h3,by rcases h4 with z | z;exact cJ h3.1 z;exact z,by lia⟩
    .rintro⟨s,h3,h4,h6⟩;have es:s=1+g - F:=by lia
     refine⟨⟨by lia,es▸h3,.inr (es▸h4)⟩,?_⟩;refine cM λz=>h4 ?_;have e:s+F=F*R:=by lia
     have:=cI (λy=>y%F) e;simp only[lM,g6] at this;exact this
   .simp only[i6,↓reduceIte];rw[fA,fA,qk,Hk (by lia)];simp only[ax,cA,dg,f9,cF,AF (show 1<2 by decide)];constructor
    .rintro⟨h3,h4⟩;exact⟨_,h3,by rcases h4 with z | z;exact cJ h3.1 z;exact z,by lia⟩
    .rintro⟨s,h3,h4,h6⟩;have:s=F+(1+g):=by lia
     subst this;exact⟨h3,.inr h4⟩
 constructor
 .rintro⟨h1,h2,h3⟩;exact⟨h2,h3,(key h3.1).mp h1⟩
 .rintro⟨h2,h3,h1⟩;exact⟨(key h3.1).mpr h1,h2,h3⟩
end
section
variable{s t a d g au az aA av kx K x c n st tg m k:Nat}{cs:List Nat}{ay:List V}
theorem yy:x &&& 1 <<< g≠0↔x.testBit g=b9:=by
 rw[tx];constructor
 .rintro⟨i,h⟩;rw[cU,qf,dq,ax,cA] at h;rw[h.2];exact h.1
 .intro h;exact⟨g,by rw[cU,qf,dq,h,cC (p:=g=g) rfl];rfl⟩
theorem NO(hl:cs.length=F*R)(hv:∀i,cs.getD i 0<16)(hs:s<F*R)(hk:2<=k/\k<=6):(sA (dL F R cc) c k s ().all).testBit t=b9↔xZ F R (u4 cs) k c s t:=by
 ext s t au az aA av kx c k cs ay;have al:=sT (n:=F*R) (au:=au) (az:=az) (aA:=aA) (av:=av) (kx:=kx) (ay:=ay) hl hv;unfold sA uq xZ;rcases YV hk with h | h | h | h | h<;>subst h
 .simp only[ib,↓reduceIte,E9 hs,pC,cA];constructor
  .intro h;exact .inr (.inl ⟨trivial,h⟩)
  .rintro(⟨h,_⟩ | ⟨_,h⟩ | ⟨h,_⟩ | ⟨d,_,h,_⟩)
   .cases h
   .exact h
   .cases h
   .split at h<;>simp at h
 .simp only[ib,↓reduceIte,JG hs,pC,cA];constructor
  .intro h;exact .inr (.inr (.inl ⟨trivial,h⟩))
  .rintro(⟨h,_⟩ | ⟨h,_⟩ | ⟨_,h⟩ | ⟨d,_,h,_⟩)
   .cases h
   .cases h
   .exact h
   .split at h<;>simp at h
 .simp only[ib,↓reduceIte,Fe hs,al];constructor
  .rintro⟨d,h1,h2,h3⟩;exact .inr (.inr (.inr ⟨d,h2,by rw[cH (by lia)];simp,h3⟩))
  .rintro(⟨h,_⟩ | ⟨h,_⟩ | ⟨h,_⟩ | ⟨d,h1,h,h2⟩)
   .cases h
   .cases h
   .cases h
   .refine⟨d,?_,h1,h2⟩;by_cases e:d<4
    .rw[cG e] at h;simp at h
    .lia
 .simp only[ib,↓reduceIte,Fb hs,al];constructor
  .rintro⟨d,h1,h3⟩;exact .inr (.inr (.inr ⟨d,by lia,by rw[cG h1];simp,h3⟩))
  .rintro(⟨h,_⟩ | ⟨h,_⟩ | ⟨h,_⟩ | ⟨d,h1,h,h2⟩)
   .cases h
   .cases h
   .cases h
   .refine⟨d,?_,h2⟩;by_cases e:d<4
    .exact e
    .rw[cH e] at h;simp at h
 .simp only[ib,↓reduceIte,dz,cW,Fb hs,Fe hs,al];constructor
  .rintro(⟨d,h1,h3⟩ | ⟨d,h1,h2,h3⟩)
   .exact .inr (.inr (.inr ⟨d,by lia,by split<;>simp,h3⟩))
   .exact .inr (.inr (.inr ⟨d,h2,by split<;>simp,h3⟩))
  .rintro(⟨h,_⟩ | ⟨h,_⟩ | ⟨h,_⟩ | ⟨d,h1,h,h2⟩)
   .cases h
   .cases h
   .cases h
   .by_cases e:d<4
    .exact .inl ⟨d,e,h2⟩
    .exact .inr ⟨d,by lia,h1,h2⟩
def Py(F R:Nat)(cs:List Nat)(au k s:Nat):Prop:=s<F*R/\cs.getD s 0≠0/\cs.getD s 0/8=au/\cs.getD s 0%8=k
theorem NF(hz:F*R<=21)(hc:au<2)(hk:k<7):s∈oY (().sd au &&& ().kd k)↔Py F R cs au k s:=by
 have e:().sd au=rH (λs=>cu (cs.getD s 0≠0)&&cu (cs.getD s 0/8=au)) (F*R):=EC hc;have l:().sd au &&& ().kd k<2 ^ 64:=by
  refine ar dG ?_;rw[e];exact cX (vw _ _) (fO ⋯ (by lia))
 rw[ub l,cU,ax,sY hc,qZ hk];unfold Py;exact⟨λ⟨⟨h1,h2,h3⟩,_,_,h4⟩=>⟨h1,h2,h3,h4⟩,λ⟨h1,h2,h3,h4⟩=>⟨⟨h1,h2,h3⟩,h1,h2,h4⟩⟩
theorem xP(hz:F*R<=21)(hl:cs.length=F*R)(hv:∀i,cs.getD i 0<16)(hc:au<2)(hk:2<=k/\k<=6)(ht:tg<2 ^ 64):m∈tR (dL F R cc) () k tg↔∃s t,Py F R cs au k s/\xZ F R (u4 cs) k au s t/\tg.testBit t=b9/\m=oT s t 0 0:=by
 ext au az aA av kx tg m k cs ay;unfold tR wi DT;have aX:().au=au:=rfl;rw[aX,dP];constructor
 .rintro⟨s,h1,h2⟩;ext s;obtain⟨t,h3,rfl⟩:=ef.mp h2;have os:=(NF hz hc (by lia)).mp h1;have h4:=uU h3;rw[cU,ax,NO hl hv os.1 hk] at h4;exact⟨s,t,os,h4.1,h4.2,rfl⟩
 .rintro⟨s,t,os,h1,h2,rfl⟩;refine⟨s,(NF hz hc (by lia)).mpr os,ef.mpr ⟨t,?_,rfl⟩⟩;rw[ub (ar dF ht),cU,ax,NO hl hv os.1 hk];exact⟨h1,h2⟩
theorem Gh(h:m∈tV og to st cap):∃f,f<4/\m=oT og to 1 f:=by
 ext m og to st cap;unfold tV at h;rcases cV.mp h with h | h
 .split at h
  .rw[dX] at h;exact⟨3,by decide,h⟩
  .cases h
 .split at h
  .simp only[dS,fW,or_false] at h;rcases h with h | h | h
   .exact⟨2,by decide,h⟩
   .exact⟨1,by decide,h⟩
   .exact⟨0,by decide,h⟩
  .cases h
theorem GL(h:Ek st cap=b9):oT og to 1 2∈tV og to st cap:=by
 unfold tV;rw[cG h];exact cV.mpr (.inr (.head _))
theorem Pu(hc:au<2)(hF:1<=F)(p:Pn F R cs au s)(pw:F<=s/\s+F<F*R)(h0:cs.getD g 0=0)(e:(g:Int)=s+KZ F au):g∈ou F R cs s:=by
 ext s g au cs;have ea:g=sD F (cs.getD s 0/8) s:=by
  rw[p.2.2.1];unfold sD;unfold KZ at e;rcases (u2 (by assumption:au<2)) with h | h<;>subst h
  .rw[cG rfl] at e;lia
  .rw[cH ⋯] at e;lia
 unfold ou;rw[cH (λz=>z p.2.2.2),<-ea,cG h0];exact cV.mpr (.inr (.head _))
theorem Qi(hc:au<2)(hw:c<2)(hg:g<F*R)(p:Pn F R cs au s)(e1:cs.getD g 0≠0/\cs.getD g 0/8=1 - au)(e:xd F au c s g=b9):g∈ou F R cs s:=by
 ext s g au c cs;have z:=cN.mp (ue T3.cap p.1 hg) au (cO.mpr hc);unfold GY at z;have z:=cK z;have st:g∈mo F R s (rO au):=by
  refine cy (z.trans ?_);rcases (u2 (by assumption:c<2)) with h | h<;>subst h
  .rw[e];rfl
  .rw[e,Bool.or_true]
 unfold ou;rw[cH (λz=>z p.2.2.2)];refine cV.mpr (.inl (eo.mpr ⟨?_,?_⟩))
 .unfold ro;rw[p.2.2.2,p.2.2.1,vJ ⋯];exact .inl ⟨rfl,st⟩
 .unfold u9;rw[p.2.2.1,ax,cA,cA];exact⟨e1.1,by lia⟩
theorem By(g0:xx F R cs)(hc:au<2)(p:Pn F R cs au s)(h:t∈ou F R cs s):(cs.getD t 0=0/\(t:Int)=s+KZ F au)\/(cs.getD t 0≠0/\cs.getD t 0/8=1 - au/\∃wg,wg<2/\xd F au wg s t=b9):=by
 ext s t au cs;have ht:=qL g0.cl g0.pw p.1 h;have ot:=tD h;have vt:=g0.cl.v t;rw[p.2.2.1] at ot;rcases yF g0 p.2.1 h with⟨hq,h2⟩ | ⟨_,h2,h3⟩
 .right;have n0:=h2 p.2.2.2;have st:t∈mo F R s (rO au):=by
   rw[p.2.2.2,p.2.2.1] at hq;rcases hq with⟨_,h⟩ | ⟨h,_⟩ | ⟨h,_⟩ | ⟨d,_,h,_⟩
   .exact h
   .cases h
   .cases h
   .split at h<;>lia
  have z:=cN.mp (ue T3.cap p.1 ht) au (cO.mpr hc);unfold GY at z;have z:=cK z;rw[cC st] at z;refine⟨n0,?_,?_⟩
  .rcases ot with h | h
   .exact cJ h n0
   .exact Ly (by assumption) (by assumption) h
  .rcases (cW _ _).mp z.symm with h | h
   .exact⟨0,by decide,h⟩
   .exact⟨1,by decide,h⟩
 .left;refine⟨h3,?_⟩;have pw:=g0.pw s p.1 p.2.2.2;rw[p.2.2.1] at h2;unfold sD at h2;unfold KZ;rcases (u2 (by assumption:au<2)) with h | h<;>subst h
  .rw[cG rfl];lia
  .rw[cH ⋯];lia
theorem Di(hw:c<2)(h:xd F au c s g=b9):((g:Int) - wD (dL F R cc) au c).toNat=s:=by
 ext s g au c;unfold xd at h;unfold wD;rw[Kr];rcases (u2 (by assumption:c<2)) with e | e<;>subst e
 .rw[cG rfl,ax,cA,cA] at h;lia
 .rw[cH ⋯,ax,cA,cA] at h;lia
theorem Nc(g0:xx F R cs)(hc:au<2)(h:m∈r7 (dL F R cc) () st tg):∃s t,Py F R cs au 1 s/\t∈ou F R cs s/\tg.testBit t=b9/\qW m=s/\qG m=t/\(u0 m=0\/u0 m=1):=by
 ext au az aA av kx st tg m cs ay;have hF:=g0.cl.bd.f;have hz:=g0.cl.bd.sz;have ob:=λg=>Iv (g:=g) (az:=az) (aA:=aA) (av:=av) (kx:=kx) (ay:=ay) (au:=au) (by lia:1<=F) g0.cl.l g0.cl.v hc;have pushOk:∀g,(pO (dL F R cc) () tg).testBit g=b9->∃s,Py F R cs au 1 s/\g∈ou F R cs s/\g<F*R/\tg.testBit g=b9/\((g:Int) - fwd (dL F R cc) au).toNat=s:=λg hg=>by
  ext g;unfold pO at hg;rw[cU,ax] at hg;obtain⟨h1,h2,s,p,e⟩:=(ob g).mp hg.1;exact⟨s,p,Pu hc (by lia) p (g0.pw s p.1 p.2.2.2) h2 e,h1,hg.2,by rw[Kr];lia⟩
 unfold r7 at h;rcases cV.mp h with h | h
 .rcases cV.mp h with h | h
  .split at h
   .unfold yf at h;obtain⟨g,h1,rfl⟩:=ef.mp h;have b:=uU h1;rw[qk,ax] at b;obtain⟨s,p,h2,h3,h4,h5⟩:=pushOk g b.1;have aX:().au=au:=rfl;rw[aX,h5];obtain⟨q1,q2,q3⟩:=Ae (o:=s) (t:=g) (s:=0) (f:=0) (by have:=p.1;lia) (by lia) ⋯ ⋯;exact⟨s,g,p,h2,h4,q1,q2,.inl q3⟩
   .cases h
  .unfold xz AD at h;obtain⟨g,h1,h2⟩:=dP.mp h;ext g;have b:=uU h1;rw[cU,ax] at b;obtain⟨s,p,h3,h4,h5,h6⟩:=pushOk g b.1;ext s;have aX:().au=au:=rfl;rw[aX,h6] at h2;obtain⟨f,hf,rfl⟩:=Gh h2;obtain⟨q1,q2,q3⟩:=Ae (o:=s) (t:=g) (s:=1) (f:=f) (by have:=p.1;lia) (by lia) ⋯ hf;exact⟨s,g,p,h3,h5,q1,q2,.inr q3⟩
 .split at h
  .unfold Mi Hr at h;obtain⟨wg,hw,h⟩:=dP.mp h;have hw2:wg<2:=by
    simp only[dS,fW,or_false] at hw;lia
   obtain⟨g,h1,h2⟩:=dP.mp h;obtain⟨b1,b2,s,p,b3⟩:=(IY (by lia) hc hw2).mp (uU h1);have gg:=Qi hc hw2 b2.1 p b2.2 b3;have aX:().au=au:=rfl;unfold Dt at h2;rw[aX,Di hw2 b3] at h2;split at h2
   .obtain⟨f,hf,rfl⟩:=Gh h2;obtain⟨q1,q2,q3⟩:=Ae (o:=s) (t:=g) (s:=1) (f:=f) (by have:=p.1;lia) (by have:=b2.1;lia) ⋯ hf;exact⟨s,g,p,gg,b1,q1,q2,.inr q3⟩
   .rw[dX] at h2;subst h2;obtain⟨q1,q2,q3⟩:=Ae (o:=s) (t:=g) (s:=0) (f:=0) (by have:=p.1;lia) (by have:=b2.1;lia) ⋯ ⋯;exact⟨s,g,p,gg,b1,q1,q2,.inl q3⟩
  .cases h
theorem Bx(g0:xx F R cs)(hc:au<2)(p:Py F R cs au 1 s)(ht:tg.testBit t=b9)(hst:st=3\/st=0/\cs.getD t 0≠0\/st=1/\cs.getD t 0=0)(h:t∈ou F R cs s):
  ∃m,m∈r7 (dL F R cc) () st tg/\qW m=s/\qG m=t/\u0 m≠3:=by
 ext s t au az aA av kx st tg cs ay;have hF:=g0.cl.bd.f;have hz:=g0.cl.bd.sz;have aX:().au=au:=rfl;have lt:=qL g0.cl g0.pw p.1 h;have ls:=p.1;have q0:=Ae (o:=s) (t:=t) (s:=0) (f:=0) (by lia) (by lia) ⋯ ⋯;have q1:=Ae (o:=s) (t:=t) (s:=1) (f:=2) (by lia) (by lia) ⋯ ⋯;have l64:(2:Nat) ^ 21<2 ^ 64:=by decide
 unfold r7;rcases By g0 hc p h with⟨h0,e⟩ | ⟨n0,n1,wg,hw,e⟩
 .have on:(u8 (dL F R cc) () au).testBit t=b9:=(Iv (by lia) g0.cl.l g0.cl.v hc).mpr ⟨lt,h0,s,p,e⟩;have ol:u8 (dL F R cc) () au<2 ^ 64:=by
   unfold u8;refine ar dF (ar (rB _ _) ?_);unfold pf.av;have:(dL F R cc).size=F*R:=rfl;rw[this,qf];have:=fO (a:=2) ⋯ (show F*R<64 by lia);lia
  have pg:(pO (dL F R cc) () tg).testBit t=b9:=by
   unfold pO;rw[aX,cU,on,ht];rfl
  have pgl:pO (dL F R cc) () tg<2 ^ 64:=by
   unfold pO;rw[aX];exact ar dG ol
  have es:((t:Int) - fwd (dL F R cc) au).toNat=s:=by rw[Kr];lia
  have s13:st≠0:=by rcases hst with h | h | h<;>lia
  by_cases lb:(pE (dL F R cc) au).testBit t=b9
  .refine⟨oT s t 1 2,cV.mpr (.inl (cV.mpr (.inr ?_))),q1.1,q1.2.1,by rw[q1.2.2];decide⟩;unfold xz AD;rw[aX];refine dP.mpr ⟨t,?_,?_⟩
   .rw[ub (ar dG pgl),cU,pg,lb];rfl
   .rw[es];refine GL ?_;unfold Ek;rcases hst with h | h | h
    .rw[h];rfl
    .exact cJ h0 h.2
    .rw[h.1];rfl
  .refine⟨oT s t 0 0,cV.mpr (.inl (cV.mpr (.inl ?_))),q0.1,q0.2.1,by rw[q0.2.2];decide⟩;rw[cG s13];unfold yf;rw[aX];refine ef.mpr ⟨t,?_,by rw[es]⟩;rw[ub (ar (rB _ _) pgl),qk,pg,eU,dg];exact eL.mpr lb
 .have s03:st≠1:=by
   rcases hst with h | h | h
   .lia
   .lia
   .exact cJ h.2 n0
  have cg:(tO (dL F R cc) () tg wg).testBit t=b9:=(IY (by lia) hc hw).mpr ⟨ht,⟨lt,n0,n1⟩,s,p,e⟩;have cl:tO (dL F R cc) () tg wg<2 ^ 64:=by
   unfold tO;refine ar dF (ar dF ?_);rw[aX];have e:().sd (1 - au)=rH (λs=>cu (cs.getD s 0≠0)&&cu (cs.getD s 0/8=1 - au)) (F*R):=EC (by lia);rw[e];exact cX (vw _ _) (fO ⋯ (by lia))
  have mw:wg∈[0,1]:=by
   rcases (u2 (by assumption:wg<2)) with h | h<;>rw[h]<;>simp
  by_cases lb:(pE (dL F R cc) au).testBit t=b9
  .refine⟨oT s t 1 2,cV.mpr (.inr ?_),q1.1,q1.2.1,by rw[q1.2.2];decide⟩;rw[cG s03];unfold Mi Hr Dt;rw[aX];refine dP.mpr ⟨wg,mw,dP.mpr ⟨t,(ub cl).mpr cg,?_⟩⟩;rw[cG (yy.mpr lb),Di hw e];refine GL ?_;unfold Ek;rcases hst with h | h | h
   .rw[h];rfl
   .rw[h.1];rfl
   .exact cJ h.2 n0
  .refine⟨oT s t 0 0,cV.mpr (.inr ?_),q0.1,q0.2.1,by rw[q0.2.2];decide⟩;rw[cG s03];unfold Mi Hr Dt;rw[aX];refine dP.mpr ⟨wg,mw,dP.mpr ⟨t,(ub cl).mpr cg,?_⟩⟩;rw[cH (λz=>lb (yy.mp z)),Di hw e];exact .head _
theorem Aj(h:t∈mo F R s ws):t<F*R:=by
 unfold mo at h;obtain⟨w,_,h⟩:=dP.mp h;exact K1 (hE h)
theorem HO(h:xZ F R p k c s t):t<F*R:=by
 rcases h with⟨_,h⟩ | ⟨_,h⟩ | ⟨_,h⟩ | ⟨d,_,_,h⟩
 .exact Aj h
 .exact Aj h
 .exact Aj h
 .exact Wh (pY.mp h).1
theorem yQ(g0:xx F R cs)(o:Py F R cs au k s)(hk:k≠1):t∈ou F R cs s↔xZ F R (u4 cs) k au s t/\(cs.getD t 0=0\/cs.getD t 0/8≠au):=by
 have pk:=Mn g0 o.2.1;unfold ou ro;rw[o.2.2.1,o.2.2.2,cG hk,eo];rw[o.2.2.2] at pk;rw[vJ pk];unfold MK;rw[cW,cA,cA];exact Iff.rfl
def aaG(F R:Nat)(cs:List Nat)(au st ev m:Nat):Prop:=
 ∃s t k,Py F R cs au k s/\qW m=s/\qG m=t/\(u0 m=0\/u0 m=1)/\t<F*R/\
  (k=1/\t∈ou F R cs s/\(st=3->ev.testBit t=b9)\/2<=k/\k<=6/\xZ F R (u4 cs) k au s t/\(if st=3/\k≠6 then ev.testBit t=b9 else cs.getD t 0=0\/cs.getD t 0/8≠au))
theorem zz(hv:∀i,cs.getD i 0<16)(hc:au<2):(oq (dL F R cc).av (().sd au)).testBit t=b9↔t<F*R/\(cs.getD t 0=0\/cs.getD t 0/8≠au):=by
 rw[qk,ur,ax,cA,dg,<-iR,sY hc];constructor
 .rintro⟨h1,h2⟩;refine⟨h1,?_⟩;by_cases h:cs.getD t 0=0
  .exact .inl h
  .exact .inr λz=>h2 ⟨h1,h,z⟩
 .rintro⟨h1,h2⟩;exact⟨h1,λz=>by rcases h2 with h | h;exact z.2.1 h;exact h z.2.2⟩
theorem xH(hl:cs.length=F*R)(hv:∀i,cs.getD i 0<16)(hc:au<2):(rj (dL F R cc) () st).testBit t=b9↔t<F*R/\(if st=0 then cs.getD t 0≠0/\cs.getD t 0/8=1 - au else if st=1 then cs.getD t 0=0 else cs.getD t 0=0\/cs.getD t 0/8≠au):=by
 unfold rj;have aX:().au=au:=rfl;rw[aX];by_cases h0:st=0
 .rw[cG h0,cG h0,sY (by lia)]
 .rw[cH h0,cH h0];by_cases h1:st=1
  .rw[cG h1,cG h1,qk,ur,congrFun (sT (n:=F*R) hl hv) t];unfold u4;simp only[ax,cA,dg,cF,me]
  .rw[cH h1,cH h1];exact zz hv hc
theorem abt(hz:F*R<=21):rH f (F*R)<2 ^ 64:=cX (vw _ _) (fO ⋯ (by lia))
theorem vG(hz:F*R<=21)(h:∀i,y.testBit i=b9->i<F*R):y<2 ^ 21:=by
 refine cQ (ie (n:=F*R) _ λi hi=>?_) (eG ⋯ hz);exact eL.mpr λz=>by have:=h i z;lia
theorem zf(hz:F*R<=21)(hl:cs.length=F*R)(hv:∀i,cs.getD i 0<16)(hc:au<2):rj (dL F R cc) () st<2 ^ 21:=
 vG hz λi h=>((xH hl hv hc).mp h).1
theorem X8(hz:F*R<=21)(hl:cs.length=F*R)(hv:∀i,cs.getD i 0<16)(hK:K<F*R)(hs:au<2)(hk:().king au=K):xo (dL F R cc) () au<2 ^ 21:=
 vG hz λi h=>((HG hl hv hK hs hk).mp h).1
theorem Ro(g0:xx F R cs)(hK:K<F*R)(hs:au<2)(hk:().king au=K):t8 (dL F R cc) ()<2 ^ 21:=by
 ext au az aA av kx K cs ay;have aX:().au=au:=rfl;have cl:=X8 (az:=az) (aA:=aA) (av:=av) (kx:=kx) (ay:=ay) g0.cl.bd.sz g0.cl.l g0.cl.v hK hs hk;have cb:=λi=>HG (a:=i) (az:=az) (aA:=aA) (av:=av) (kx:=kx) (ay:=ay) g0.cl.l g0.cl.v hK hs hk;unfold t8 JN;rw[aX,hk];split
 .decide
 .rename_i h0;refine vG g0.cl.bd.sz λi h=>?_;rw[dz,cW] at h;rcases h with h | h
  .exact((cb i).mp h).1
  .have ne:xo (dL F R cc) () au≠0:=λe=>h0 (.inl e);have z1:xo (dL F R cc) () au &&& (xo (dL F R cc) () au - 1)=0:=cM λe=>h0 (.inr e);obtain⟨k,hk1⟩:=(xL ne).mp z1;rw[M1 hk1] at h;obtain⟨d,hd,h1,h2⟩:=(Ec hK ((cb k).mp ((hk1 k).mpr rfl)).1).mp h;exact Wh (ug h2)
theorem xr(g0:xx F R cs)(hc:au<2)(hks:∀k∈ks,2<=k/\k<=6)(ht:tg<2 ^ 21):m∈ut (dL F R cc) () ks tg↔∃k,k∈ks/\∃s t,Py F R cs au k s/\xZ F R (u4 cs) k au s t/\tg.testBit t=b9/\m=oT s t 0 0:=by
 ext au az aA av kx tg m cs ay ks;unfold ut;rw[dP];constructor
 .rintro⟨k,h1,h2⟩;exact⟨k,h1,(xP g0.cl.bd.sz g0.cl.l g0.cl.v hc (hks k h1) (cX ht ⋯)).mp h2⟩
 .rintro⟨k,h1,h2⟩;exact⟨k,h1,(xP g0.cl.bd.sz g0.cl.l g0.cl.v hc (hks k h1) (cX ht ⋯)).mpr h2⟩
theorem Ri(g0:xx F R cs)(hc:au<2)(hK:K<F*R)(hk:().king au=K)(h:m∈uc (dL F R cc) () st):
  aaG F R cs au st (t8 (dL F R cc) ()) m\/st≠3/\m∈GO (dL F R cc) ():=by
 ext au az aA av kx K st m cs ay;have hz:=g0.cl.bd.sz;have aX:().au=au:=rfl;have el:=Ro (az:=az) (aA:=aA) (av:=av) (kx:=kx) (ay:=ay) g0 hK hc hk;have dec:∀{s t:Nat},s<F*R->t<F*R->qW (oT s t 0 0)=s/\qG (oT s t 0 0)=t/\u0 (oT s t 0 0)=0:=λh1 h2=>Ae (by lia) (by lia) ⋯ ⋯;have ownL:oq (dL F R cc).av (().sd au)<2 ^ 21:=vG hz λi h=>((zz g0.cl.v hc).mp h).1;unfold uc at h;by_cases h3:st=3
 .rw[cG h3] at h;left;unfold DB at h;rcases cV.mp h with h | h
  .split at h
   .rcases cV.mp h with h | h
    .obtain⟨s,t,o,gl,b,e1,e2,e3⟩:=Nc g0 hc h;exact⟨s,t,1,o,e1,e2,e3,qL g0.cl g0.pw o.1 gl,.inl ⟨rfl,gl,λw=>b⟩⟩
    .obtain⟨k,hk1,s,t,o,hq,b,rfl⟩:=(xr g0 hc (by simp) el).mp h;have hk2:2<=k/\k<=5:=ZU hk1;have lt:=HO hq;obtain⟨e1,e2,e3⟩:=dec o.1 lt;exact⟨s,t,k,o,e1,e2,.inl e3,lt,.inr ⟨hk2.1,by lia,hq,by rw[cG ⟨h3,by lia⟩];exact b⟩⟩
   .cases h
  .rw[aX] at h;obtain⟨s,t,o,hq,b,rfl⟩:=(xP hz g0.cl.l g0.cl.v hc ⋯ (cX ownL ⋯)).mp h;have lt:=HO hq;obtain⟨e1,e2,e3⟩:=dec o.1 lt;exact⟨s,t,6,o,e1,e2,.inl e3,lt,.inr ⟨by decide,by decide,hq,by rw[cH (λz=>z.2 rfl)];exact((zz g0.cl.v hc).mp b).2⟩⟩
 .rw[cH h3] at h;rcases cV.mp h with h | h
  .left;rcases cV.mp h with h | h
   .obtain⟨s,t,o,gl,b,e1,e2,e3⟩:=Nc g0 hc h;exact⟨s,t,1,o,e1,e2,e3,qL g0.cl g0.pw o.1 gl,.inl ⟨rfl,gl,λz=>cJ z h3⟩⟩
   .obtain⟨k,hk1,s,t,o,hq,b,rfl⟩:=(xr g0 hc (by simp) (zf hz g0.cl.l g0.cl.v hc)).mp h;have hk2:2<=k/\k<=6:=Zy hk1;have lt:=HO hq;obtain⟨e1,e2,e3⟩:=dec o.1 lt;refine⟨s,t,k,o,e1,e2,.inl e3,lt,.inr ⟨hk2.1,hk2.2,hq,?_⟩⟩;rw[cH (λz=>h3 z.1)];have z:=((xH g0.cl.l g0.cl.v hc).mp b).2;split at z
    .exact .inr (by lia)
    .split at z
     .exact .inl z
     .exact z
  .split at h
   .exact .inr ⟨h3,h⟩
   .cases h
end
section
variable{s t a d g au az aA av kx K x c n st tg m k r:Nat}{cs:List Nat}{ay:List V}
theorem IC(hc:au<2)(hk:∀i,cs.getD i 0=au*8+6↔i=K)(hK:K<F*R):Py F R cs au 6 K:=by
 have:=(hk K).mpr rfl;exact⟨hK,by lia,by lia,by lia⟩
theorem Rx(hk:∀i,cs.getD i 0=au*8+6↔i=K)(o:Py F R cs au 6 s):s=K:=(hk s).mp (by have:=o.2.2.1;have:=o.2.2.2;lia)
theorem Si(g0:xx F R cs)(hc:au<2)(hk:∀i,cs.getD i 0=au*8+6↔i=K)(hK:K<F*R)(hr:r∈mo F R K oy)(h0:cs.getD r 0=0)(a1:uE (dL F R cc) () K (1 - au) ().all=cj)(a2:uE (dL F R cc) () r (1 - au) ().all=cj):
  r∈ou F R cs K/\tf F R cs K r=b9:=by
 ext au az aA av kx K r cs ay;have rl:r<F*R:=Aj hr;have o:=IC hc hk hK;refine⟨(yQ g0 o ⋯).mpr ⟨.inr (.inr (.inl ⟨rfl,hr⟩)),.inl h0⟩,?_⟩;rw[Bt (az:=az) (aA:=aA) (av:=av) (kx:=kx) (ay:=ay) g0 hc hk hK rl (.inl h0)];refine eL.mpr λz=>?_;obtain⟨a,b1,b2,b3,b4⟩:=(tA rl (by lia)).mp z;ext a;have al:∀y,().all.testBit y=u4 cs y:=λy=>congrFun (sT (n:=F*R) g0.cl.l g0.cl.v) y;have no1:∀a,¬yZ F R cs (λx=>().all.testBit x) (1 - au) K a:=λa h=>by
  rw[(tA hK (by lia)).mpr ⟨a,h⟩] at a1;cases a1
 have no2:∀a,¬yZ F R cs (λx=>().all.testBit x) (1 - au) r a:=λa h=>by
  rw[(tA rl (by lia)).mpr ⟨a,h⟩] at a2;cases a2
 have xb:∀y,y≠K->(().all ^^^ 1 <<< K).testBit y=().all.testBit y:=λy hy=>by
  rw[fk,qf,dq,cD (p:=K=y) (λe=>hy e.symm),jv]
 rcases b4 with h | h | h | ⟨d,h1,h2,h3⟩
 .exact no2 a ⟨b1,b2,b3,.inl h⟩
 .exact no2 a ⟨b1,b2,b3,.inr (.inl h)⟩
 .exact no2 a ⟨b1,b2,b3,.inr (.inr (.inl h))⟩
 .obtain⟨m1,m2⟩:=pY.mp h3;by_cases hp:K∈pre r (wl F R a d)
  .refine no1 a ⟨b1,b2,b3,.inr (.inr (.inr ⟨d,h1,h2,pY.mpr ⟨ug hp,λy hy=>?_⟩⟩))⟩;have:=m2 y (AV hp hy);rw[xb y (K7 hy)] at this;exact this
  .refine no2 a ⟨b1,b2,b3,.inr (.inr (.inr ⟨d,h1,h2,pY.mpr ⟨m1,λy hy=>?_⟩⟩))⟩;have:=m2 y hy;rw[xb y (λe=>hp (e▸hy))] at this;exact this
theorem HH(hc:G.castles.getD i U=J [kf,kt,rf,rt])(h:uW G P i=0):P.az &&& 1 <<< i≠0/\P.all &&& V9 kf rf=0/\uE G P kf (1 - (i >>> 1)) P.all=cj/\uE G P rt (1 - (i >>> 1)) P.all=cj:=by
 ext G P i kf kt rf rt;unfold uW at h;rw[hc] at h;dsimp only at h;split at h
 .cases h
 .rename_i h1;split at h
  .cases h
  .rename_i h2;split at h
   .cases h
   .rename_i h3;split at h
    .cases h
    .rename_i h4;exact⟨h1,cM h2,by simpa using h3,by simpa using h4⟩
def Cc(F R:Nat)(cc:Bool):Prop:=F=3/\R=4/\cc=cj\/F=7/\R=3/\cc=b9
theorem SM{P:Ps}{kf rf rt:Nat}(h:P.all &&& V9 kf rf=0)(hb:(V9 kf rf).testBit rt=b9)(al:∀y,P.all.testBit y=u4 cs y):cs.getD rt 0=0:=by
 ext cs P kf rf rt;have z:(P.all &&& V9 kf rf).testBit rt=cj:=by rw[h,dy]
 rw[cU,hb,jH,al] at z;unfold u4 at z;exact cM λe=>by rw[cC e] at z;cases z
theorem MM(hcc:Cc F R cc)(g:Gp F R cs au az)(hk:∀i,cs.getD i 0=au*8+6↔i=K)(hK:K<F*R)(h:m∈GO (dL F R cc) ()):
  (u0 m=3/\qW m<F*R/\qG m<F*R)/\∃r,r∈ou F R cs K/\tf F R cs K r=b9:=by
 ext au az aA av kx K m cs ay;unfold GO at h;have aX:().au=au:=rfl;rw[aX] at h;obtain⟨i,hi,h⟩:=dP.mp h;have hi4:i=2*au\/i=2*au+1:=by simpa using hi
 have sd:=g.sd;unfold yd at h;split at h
 .rename_i h0;rw[dX] at h;rcases hcc with⟨eF,eR,ec⟩ | ⟨eF,eR,ec⟩
  .exfalso;ext i;have e:(dL F R cc).castles.getD i U=U:=by
    rw[eF,eR,ec];have:i<4:=by lia
    exact V7 this rfl rfl rfl rfl
   unfold uW at h0;rw[e] at h0;cases h0
  .have al:∀y,().all.testBit y=u4 cs y:=λy=>congrFun (sT g.cg.cl.l g.cg.cl.v) y;have key:∀kf kt rf rt,(dL F R cc).castles.getD i U=J [kf,kt,rf,rt]->i >>> 1=au->kf=i/2*14+3->(V9 kf rf).testBit rt=b9->rt∈mo F R kf oy->i/2=au->i<4->kf<21->kt<21->
     (u0 m=3/\qW m<F*R/\qG m<F*R)/\∃r,r∈ou F R cs K/\tf F R cs K r=b9:=λkf kt rf rt e1 e2 e3 e4 e5 e6 e7 e8 e9=>by
    obtain⟨c1,c2,c3,c4⟩:=HH e1 h0;rw[e2] at c3 c4;have rb:az >>> i &&& 1≠0:=tI.mpr (yy.mp c1);have hm:=g.rt i e7 rb;unfold wV at hm;simp only[ax,cA] at hm;have kK:kf=K:=(hk kf).mp (by rw[e3,hm.2.2.1,e6]);subst kK;rw[e1] at h;have hm2:m=oT kf kt 3 0:=h;obtain⟨q1,q2,q3⟩:=Ae (o:=kf) (t:=kt) (s:=3) (f:=0) e8 e9 ⋯ ⋯;rw[hm2];exact⟨⟨q3,by rw[q1,eF,eR];exact e8,by rw[q2,eF,eR];exact e9⟩,rt,Si g.cg sd hk hK e5 (SM c2 e4 al) c3 c4⟩
   rcases (u2 (by assumption:au<2)) with e | e<;>subst e
   .rcases hi4 with e | e<;>subst e
    .exact key 3 5 6 4 (by rw[eF,eR,ec];rfl) rfl rfl ⋯ (by rw[eF,eR];decide) rfl ⋯ ⋯ ⋯
    .exact key 3 1 0 2 (by rw[eF,eR,ec];rfl) rfl rfl ⋯ (by rw[eF,eR];decide) rfl ⋯ ⋯ ⋯
   .rcases hi4 with e | e<;>subst e
    .exact key 17 19 20 18 (by rw[eF,eR,ec];rfl) rfl rfl ⋯ (by rw[eF,eR];decide) rfl ⋯ ⋯ ⋯
    .exact key 17 15 14 16 (by rw[eF,eR,ec];rfl) rfl rfl ⋯ (by rw[eF,eR];decide) rfl ⋯ ⋯ ⋯
 .cases h
theorem J0(hk:().king au=K)(h3:u0 m≠3):ww (dL F R cc) () m pn=b9↔if qW m=K then uE (dL F R cc) () (qG m) (1 - au) (().all ^^^ 1 <<< K)=cj else pn.testBit (qW m)=cj\/OW (dL F R cc) (qW m) (qG m) K=b9:=by
 ext au az aA av kx K m cs ay pn;have aX:().au=au:=rfl;unfold ww;rw[aX,hk,cH h3];by_cases e:qW m=K
 .rw[cG e,cG e,dg]
 .rw[cH e,cH e];by_cases b:pn >>> qW m &&& 1=0
  .rw[cG b];refine⟨λw=>.inl ?_,λw=>rfl⟩;exact eL.mpr λz=>(tI.mpr z) b
  .rw[cH b];exact⟨λz=>.inr z,λz=>z.elim (λz=>by rw[tI.mp b] at z;cases z) id⟩
theorem Ok(g0:xx F R cs)(hs:au<2)(hK:K<F*R)(hk:().king au=K)(ch:se (dL F R cc) () au=b9)(h:(t8 (dL F R cc) ()).testBit t=b9):cs.getD t 0=0\/cs.getD t 0/8≠au:=by
 ext t au az aA av kx K cs ay;have ex:∃a,Ck F R cs au K a:=by
  unfold se at ch;rw[hk,tA hK (by lia),sT g0.cl.l g0.cl.v] at ch;exact ch
 rcases (LT g0 hs hK hk ex).mp h with⟨a,u,h | ⟨d,hd,h1,h2⟩⟩
 .subst h;have:=(u t).mpr rfl;exact .inr (by have:=this.2.2.1;lia)
 .rcases (Hm hK).mp ((u a).mpr rfl) with l | ⟨d',sn,cl⟩
  .rw[Sg hs hK l hd h1] at h2;cases h2
  .have:=(xg hd hK).2.2 d' sn.1 h1 sn.2.2.2;subst this;have:=cl t h2;unfold u4 at this;exact .inl (cM λz=>by rw[cC z] at this;cases this)
theorem To(hcc:Cc F R cc)(g:Gp F R cs au az):AK (dL F R cc) ()=b9↔∃s t,(s,t)∈rd F R cs au/\tf F R cs s t=b9:=by
 ext au az aA av kx cs ay;have g0:=g.cg;have aY:=g.sd;obtain⟨K,hK,hk⟩:=g0.king aY;have hl:=g0.cl.l;have kq:=z9 (au:=au) (az:=az) (aA:=aA) (av:=av) (kx:=kx) (ay:=ay) g0 aY hk hK;have aX:().au=au:=rfl;unfold AK;rw[aX,ez];obtain⟨ch,hch⟩:=(⟨_,rfl⟩:∃ch,ch=se (dL F R cc) () au)
 rw[<- hch];constructor
 .rintro⟨st,hst,hm⟩;obtain⟨m,hm,hleg⟩:=ez.mp hm;rcases Ri g0 aY hK kq hm with⟨s,t,k,o,e1,e2,e3,lt,hq⟩ | ⟨_,hcast⟩
  .have s3:u0 m≠3:=by lia
   have lg:=(J0 kq s3).mp hleg;rw[e1,e2] at lg;have st3:ch=b9->st=3:=λe=>by rw[e] at hst;simpa[CA] using hst
   have st3':st=3->ch=b9:=λe=>by
    cases hc:ch with
    | true=>rfl
    | false=>rw[hc,e] at hst;simp [CA] at hst
   have gl:t∈ou F R cs s/\(s≠K->ch=b9->(t8 (dL F R cc) ()).testBit t=b9):=by
    rcases hq with⟨hk1,gl,ev⟩ | ⟨h2,h6,hq,tgq⟩
    .exact⟨gl,λ_ e=>ev (st3 e)⟩
    .have k1:k≠1:=by lia
     rw[yQ g0 o k1];split at tgq
     .rename_i e;exact⟨⟨hq,Ok g0 aY hK kq (by rw[<- hch];exact st3' e.1) tgq⟩,λ_ _=>tgq⟩
     .rename_i e;refine⟨⟨hq,tgq⟩,λsK hc=>?_⟩;have k6:k=6:=cM λz=>e ⟨st3 hc,z⟩;subst k6;exact cJ (Rx hk o) sK
   refine⟨s,t,rE.mpr ⟨by rw[hl];exact o.1,o.2.1,o.2.2.1,gl.1⟩,?_⟩;by_cases sK:s=K
   .subst sK;rw[cG rfl] at lg;have ot:=tD gl.1;rw[o.2.2.1] at ot;exact(Bt g0 aY hk hK lt ot).mpr lg
   .rw[cH sK] at lg;exact(yY g0 aY hk hK o.1 ⟨o.2.1,o.2.2.1⟩ sK gl.1).mpr ⟨λe=>gl.2 sK (by rw[hch];exact e),lg⟩
  .obtain⟨_,r,h1,h2⟩:=MM hcc g hk hK hcast;have o:=IC aY hk hK;exact⟨K,r,rE.mpr ⟨by rw[hl];exact hK,o.2.1,o.2.2.1,h1⟩,h2⟩
 .rintro⟨s,t,hm,hf⟩;obtain⟨m1,m2,m3,m4⟩:=rE.mp hm;have m1:s<F*R:=by rw[<- hl];exact m1
  have m2:cs.getD s 0≠0:=m2;have lt:=qL g0.cl g0.pw m1 m4;have ot:=tD m4;have m3:cs.getD s 0/8=au:=m3;have m4:t∈ou F R cs s:=m4;rw[m3] at ot;have pk:=Mn g0 m2;have o:Py F R cs au (cs.getD s 0%8) s:=⟨m1,m2,m3,rfl⟩
  have hz:=g0.cl.bd.sz;have el:=Ro (az:=az) (aA:=aA) (av:=av) (kx:=kx) (ay:=ay) g0 hK aY kq;have dec:=Ae (o:=s) (t:=t) (s:=0) (f:=0) (by lia) (by lia) ⋯ ⋯;have done:∀st m,st∈CA ch->m∈uc (dL F R cc) () st->qW m=s->qG m=t->u0 m≠3->∃st,st∈CA ch/\((uc (dL F R cc) () st).any λm=>ww (dL F R cc) () m (Cm (dL F R cc) ()))=b9:=λst m h1 h2 e1 e2 e3=>by
   refine⟨st,h1,ez.mpr ⟨m,h2,(J0 kq e3).mpr ?_⟩⟩;rw[e1,e2];by_cases sK:s=K
   .rw[cG sK];subst sK;exact(Bt g0 aY hk hK lt ot).mp hf
   .rw[cH sK];exact((yY g0 aY hk hK m1 ⟨m2,m3⟩ sK m4).mp hf).2
  have evb:s≠K->ch=b9->(t8 (dL F R cc) ()).testBit t=b9:=λsK e=>((yY (az:=az) (aA:=aA) (av:=av) (kx:=kx) (ay:=ay) g0 aY hk hK m1 ⟨m2,m3⟩ sK m4).mp hf).1 (by rw[<- hch];exact e);by_cases k1:cs.getD s 0%8=1
  .have sK:s≠K:=λe=>by have:=(hk s).mpr e;lia
   rw[k1] at o;cases hc:ch with
   | true=>
    rw[hc] at done;have eb:=evb sK hc;obtain⟨m,q1,q2,q3,q4⟩:=Bx (az:=az) (aA:=aA) (av:=av) (kx:=kx) (ay:=ay) g0 aY o eb (.inl rfl) m4;refine done 3 m (by simp [CA]) ?_ q2 q3 q4;unfold uc;rw[cG rfl];unfold DB;rw[cG (tx.mpr ⟨t,eb⟩)];exact cV.mpr (.inl (cV.mpr (.inl q1)))
   | false=>
    rw[hc] at done;have fb:(dL F R cc).av.testBit t=b9:=by rw[ur];exact cC lt
    by_cases h0:cs.getD t 0=0
    .obtain⟨m,q1,q2,q3,q4⟩:=Bx (az:=az) (aA:=aA) (av:=av) (kx:=kx) (ay:=ay) g0 aY o fb (.inr (.inr ⟨rfl,h0⟩)) m4;refine done 1 m (by simp [CA]) ?_ q2 q3 q4;unfold uc;rw[cH ⋯];exact cV.mpr (.inl (cV.mpr (.inl q1)))
    .obtain⟨m,q1,q2,q3,q4⟩:=Bx (az:=az) (aA:=aA) (av:=av) (kx:=kx) (ay:=ay) g0 aY o fb (.inr (.inl ⟨rfl,h0⟩)) m4;refine done 0 m (by simp [CA]) ?_ q2 q3 q4;unfold uc;rw[cH ⋯];exact cV.mpr (.inl (cV.mpr (.inl q1)))
  .have hq:=(yQ g0 o k1).mp m4;have s3:u0 (oT s t 0 0)≠3:=by rw[dec.2.2];decide
   cases hc:ch with
   | true=>
    rw[hc] at done;refine done 3 (oT s t 0 0) (by simp [CA]) ?_ dec.1 dec.2.1 s3;unfold uc;rw[cG rfl];unfold DB;by_cases k6:cs.getD s 0%8=6
    .refine cV.mpr (.inr ?_);rw[aX];have ownL:oq (dL F R cc).av (().sd au)<2 ^ 21:=vG hz λi h=>((zz g0.cl.v aY).mp h).1;rw[k6] at o hq;exact(xP hz hl g0.cl.v aY ⋯ (cX ownL ⋯)).mpr ⟨s,t,o,hq.1,(zz g0.cl.v aY).mpr ⟨lt,hq.2⟩,rfl⟩
    .have sK:s≠K:=λe=>by have:=(hk s).mpr e;lia
     have eb:=evb sK hc;rw[cG (tx.mpr ⟨t,eb⟩)];refine cV.mpr (.inl (cV.mpr (.inr ?_)));refine(xr g0 aY (by simp) el).mpr ⟨_,?_,s,t,o,hq.1,eb,rfl⟩;exact abk (by assumption) (by assumption) (by assumption)
   | false=>
    rw[hc] at done;have bV:cs.getD s 0%8∈([2,3,4,5,6]:List Nat):=aaU (by assumption) (by assumption);by_cases h0:cs.getD t 0=0
    .refine done 1 (oT s t 0 0) (by simp [CA]) ?_ dec.1 dec.2.1 s3;unfold uc;rw[cH ⋯];refine cV.mpr (.inl (cV.mpr (.inr ?_)));refine(xr g0 aY (by simp) (zf hz hl g0.cl.v aY)).mpr ⟨_,bV,s,t,o,hq.1,(xH hl g0.cl.v aY).mpr ⟨lt,?_⟩,rfl⟩;rw[cH ⋯,cG rfl];exact h0
    .refine done 0 (oT s t 0 0) (by simp [CA]) ?_ dec.1 dec.2.1 s3;unfold uc;rw[cH ⋯];refine cV.mpr (.inl (cV.mpr (.inr ?_)));refine(xr g0 aY (by simp) (zf hz hl g0.cl.v aY)).mpr ⟨_,bV,s,t,o,hq.1,(xH hl g0.cl.v aY).mpr ⟨lt,?_⟩,rfl⟩;rw[cG rfl];have vt:=g0.cl.v t;rcases ot with z | z
     .exact cJ z h0
     .have z':cs.getD t 0/8≠au:=z;have e:cs.getD t 0/8=1 - au:=Ly vt aY z';exact⟨h0,e⟩
end
section
variable{s t a d au az aA av kx K x c n m k r:Nat}{cs:List Nat}{ay:List V}
theorem O3:(w8 F R cs au 0).isNone=b9↔¬∃s t,(s,t)∈rd F R cs au/\tf F R cs s t=b9:=by
 ext au cs;unfold w8;rw[eu,List.findSome?_eq_none_iff];have id:∀k,k<(rd F R cs au).length->Je 0 (rd F R cs au).length k=k:=λk hk=>by
  ext k;unfold Je;rw[hH _ (by lia),Int.zero_add,lK (by lia) (by lia)];lia
 constructor
 .rintro h ⟨s,t,hm,hf⟩;obtain⟨k,hk,e⟩:=ik hm;have z:=h k (cO.mpr hk);unfold DA at z;rw[id k hk,ba,a7 hk,e] at z;rw[cG (by exact hf)] at z;cases z
 .intro h k hk;have hk:=cO.mp hk;unfold DA;rw[id k hk,ba,a7 hk];refine cH λz=>h ⟨_,_,du hk,z⟩
theorem Ea{p:Nat->Nat->Bool}{q:Nat->Bool}{ks:List Nat}(h:∀m,(ks.map λk=>if p k m=b9 then 1 else 0).sum<=if q m=b9 then 1 else 0):∀l:List Nat,(ks.map λk=>(l.filter (p k)).length).sum<=(l.filter q).length
 | []=>by
  have:∀ks:List Nat,(ks.map λk=>(([]:List Nat).filter (p k)).length).sum=0:=λks=>by
   induction ks with
   | nil=>rfl
   | cons k ks ih=>rw[dA,fM,ih];rfl
  rw[this];exact dH _
 | m::l=>by
  have ih:=Ea h l;have hm:=h m;have e:(ks.map λk=>((m::l).filter (p k)).length).sum=(ks.map λk=>if p k m=b9 then 1 else 0).sum+(ks.map λk=>(l.filter (p k)).length).sum:=by
   clear h hm ih
   induction ks with
   | nil=>rfl
   | cons k ks ih=>
    rw[dA,fM,ih,dA,fM,dA,fM,jP];split
    .rw[eB];lia
    .lia
  rw[e,jP];split
  .rename_i hq;rw[cG hq] at hm;rw[eB];lia
  .rename_i hq;rw[cH hq] at hm;lia
theorem Hp:∀n,n<22->((jC 0 64).filter λm=>cu (m<n)).length<=21:=by decide +kernel
theorem Ym(hz:F*R<=21)(hc:au<2):(([2,3,4,5,6]:List Nat).map (vh ())).sum<=21:=by
 ext au az aA av kx cs ay;have aX:().au=au:=rfl;have e:([2,3,4,5,6]:List Nat).map (vh ())=([2,3,4,5,6]:List Nat).map λk=>((jC 0 64).filter λm=>cu (k<7)&&(cu (m<F*R)&&(cu (cs.getD m 0≠0)&&(cu (cs.getD m 0/8=au)&&cu (cs.getD m 0%8=k))))).length:=by
  refine kZ λk hk=>?_;ext k;have k7:k<7:=by simp only[dS,fW,or_false] at hk;lia
  unfold vh oY
  (rewrite [aX,xj];try with_reducible rfl)
  congr 1;refine lV λm w=>?_;ext m
  (rewrite [ma,cU,cC k7,eU,de,ax,sY hc,qZ k7];try with_reducible rfl)
  simp only[ax,cA];exact⟨λ⟨⟨h1,h2,h3⟩,_,_,h4⟩=>⟨h1,h2,h3,h4⟩,λ⟨h1,h2,h3,h4⟩=>⟨⟨h1,h2,h3⟩,h1,h2,h4⟩⟩
 (rewrite [e];try with_reducible rfl)
 refine cS (Ea (q:=λm=>cu (m<F*R)) (λm=>?_) _) (Hp _ (by lia));ext m;by_cases h:m<F*R
 ·(rewrite [cG (cC h)];try with_reducible rfl)
  simp only[dA,iK,fM,lX,ax,cA];generalize cs.getD m 0%8=v
  repeat' split
  all_goals lia
 .have:∀k,(cu (k<7)&&(cu (m<F*R)&&(cu (cs.getD m 0≠0)&&(cu (cs.getD m 0/8=au)&&cu (cs.getD m 0%8=k)))))=cj:=λk=>by
   (rewrite [cD h,kO,fZ];try with_reducible rfl)
  simp only[this];exact dH _
theorem ZK(hcc:Cc F R cc)(g:Gp F R cs au az):Gd (dL F R cc) ():=by
 ext au az aA av kx cs ay;have g0:=g.cg;have aY:=g.sd;obtain⟨K,hK,hk⟩:=g0.king aY;have kq:=z9 (au:=au) (az:=az) (aA:=aA) (av:=av) (kx:=kx) (ay:=ay) g0 aY hk hK;refine⟨Tn g0 aY hk hK,Ro g0 hK aY kq,λst=>zf g0.cl.bd.sz g0.cl.l g0.cl.v aY,Ym g0.cl.bd.sz aY,λst m hm=>?_⟩;rcases Ri g0 aY hK kq hm with⟨s,t,k,o,e1,e2,e3,lt,_⟩ | ⟨_,hcast⟩
 .exact⟨by lia,by rw[e1];exact o.1,by rw[e2];exact lt⟩
 .obtain⟨⟨h1,h2,h3⟩,_⟩:=MM hcc g hk hK hcast;exact⟨by rw[h1];decide,h2,h3⟩
theorem UI(g0:xx F R cs)(hc:au<2)(o:Py F R cs au 1 s)(h:t∈ou F R cs s):(t:Int) - s≠2*F/\(s:Int) - t≠2*F:=by
 ext s t au cs;have hF:=g0.cl.bd.f;have fw:KZ F au=F\/KZ F au=-(F:Int):=by unfold KZ;split<;>simp
 rcases By g0 hc o h with⟨_,e⟩ | ⟨_,_,wg,_,e⟩
 .rcases fw with f | f<;>rw[f] at e<;>lia
 ext wg
 .unfold xd at e;split at e
  .rw[ax,cA,cA] at e;rcases fw with f | f<;>rw[f] at e<;>lia
  .rw[ax,cA,cA] at e;rcases fw with f | f<;>rw[f] at e<;>lia
theorem Vc(hk:k<7):(oj n cs au az aA av kx ay).kd k=0↔∀s,s<n->cs.getD s 0≠0->cs.getD s 0%8≠k:=by
 ext au az aA av kx n k cs ay;constructor
 .intro h s h1 h2 h3;have:=(qZ (n:=n) (cs:=cs) (au:=au) (az:=az) (aA:=aA) (av:=av) (kx:=kx) (ay:=ay) (a:=s) hk).mpr ⟨h1,h2,h3⟩;rw[h,dy] at this;cases this
 .intro h;refine cM λz=>?_;obtain⟨i,hi⟩:=tx.mp z;obtain⟨h1,h2,h3⟩:=(qZ hk).mp hi;exact h i h1 h2 h3
theorem PP(f:Nat->Nat)(i:Nat)(l:List Nat)(a:Nat):(l.foldl (λa s=>a ||| 1 <<< f s) a).testBit i=b9↔a.testBit i=b9\/∃s∈l,f s=i:=by
 rw[<- List.foldl_map (f:=f) (g:=λa t=>a ||| 1 <<< t),D8,cW,cA,ef]
theorem MH(f:Nat->Nat)(hf:∀s,f s<=1):∀(l:List Nat) (a:Nat),a<4->l.foldl (λa s=>a ||| 1 <<< f s) a<4
 | [],a,h=>h
 | s::l,a,h=>by
  rw[ja];refine MH f hf l _ (Nat.or_lt_two_pow (n:=2) h ?_);have:=hf s;rcases (by lia:f s=0\/f s=1) with e | e<;>rw[e]<;>decide
theorem OC(h:y<4):y=3↔y.testBit 0=b9/\y.testBit 1=b9:=by
 have all:∀y,y<4->(y=3↔y.testBit 0=b9/\y.testBit 1=b9):=by decide
 exact all y h
theorem Px(hn:l.Nodup)(h:∀x,x∈l↔x=s):l=[s]:=by
 match l,hn with
 | [],_=>exact cJ ((h s).mpr rfl) (by simp)
 | [y],_=>rw[(h y).mp (.head _)]
 | y::z::l,hn=>
  have e1:=(h y).mp (.head _);have e2:=(h z).mp (.tail _ (.head _));rw[e1,e2] at hn;simp at hn
theorem Ur(g0:xx F R cs):xh (dL F R cc) ()=vC F cs:=by
 ext au az aA av kx cs ay;have hl:=g0.cl.l;have hz:=g0.cl.bd.sz;have kz:=λ{k:Nat} (hk:k<7)=>Vc (n:=F*R) (cs:=cs) (au:=au) (az:=az) (aA:=aA) (av:=av) (kx:=kx) (ay:=ay) hk;have lm:∀s,s∈(cn cs.length).filter (zu cs)↔s<F*R/\cs.getD s 0≠0/\cs.getD s 0%8≠6:=λs=>by
  ext s;rw[eo,cO,hl];unfold zu;rw[dg,cF];simp only[dS,fW,or_false,not_or];refine and_congr_right λw=>?_;rcases g0.pv s with z | z
  .rw[z]
  .exact⟨λh=>⟨λe=>by rw[e] at z;lia,h.2⟩,λh=>⟨by lia,h.2⟩⟩
 obtain⟨L,hL⟩:=(⟨_,rfl⟩:∃L,L=(cn cs.length).filter (zu cs))
 ext L;rw[<- hL] at lm;have ln:L.Nodup:=by rw[hL];exact kQ _ List.nodup_range
 have lo:wP F cs=L.map (BR F cs):=by unfold wP;rw[hL]
 have rep:∀y:Nat × Nat,wP F cs=cZ (wP F cs).length y↔∀s∈L,BR F cs s=y:=λy=>by
  rw[List.eq_replicate_iff,lo];exact⟨λh s hs=>h.2 _ (ef.mpr ⟨s,hs,rfl⟩),λh=>⟨rfl,λb hb=>by obtain⟨a,ha,e⟩:=ef.mp hb;rw[<- e];exact h a ha⟩⟩
 have bl:vC F cs=b9↔(wP F cs=[(2,0)]\/wP F cs=[(2,1)])\/((∀s∈L,BR F cs s=(3,0))\/∀s∈L,BR F cs s=(3,1)):=by
  unfold vC;rw[cW,cW,cW,cA,cA,cA,cA,rep,rep]
 have one:∀x,wP F cs=[(2,x)]↔∃s,L=[s]/\BR F cs s=(2,x):=λx=>by
  rw[lo];exact List.map_eq_singleton_iff
 have f1:∀s k x,BR F cs s=(k,x)->cs.getD s 0%8=k:=λs k x h=>(jB h).1;have al:∀s∈L,vC F cs=b9->cs.getD s 0%8=2\/cs.getD s 0%8=3:=λs hs h=>by
  rcases bl.mp h with(h | h) | (h | h)
  .obtain⟨s',e,h'⟩:=(one 0).mp h;rw[e,dX] at hs;rw[hs];exact .inl (f1 _ _ _ h')
  .obtain⟨s',e,h'⟩:=(one 1).mp h;rw[e,dX] at hs;rw[hs];exact .inl (f1 _ _ _ h')
  .exact .inr (f1 _ _ _ (h s hs))
  .exact .inr (f1 _ _ _ (h s hs))
 have inL:∀{k},k≠6->().kd k≠0->k<7->∃s,s∈L/\cs.getD s 0%8=k:=λ{k} k6 h hk=>by
  obtain⟨i,hi⟩:=tx.mp h;obtain⟨h1,h2,h3⟩:=(qZ hk).mp hi;exact⟨i,(lm i).mpr ⟨h1,h2,by rw[h3];exact k6⟩,h3⟩
 unfold xh;by_cases hA:().kd 1 ||| ().kd 4 ||| ().kd 5=0
 .rw[cH (λh=>h hA)];obtain⟨h12,a5⟩:=lG.mp hA;obtain⟨a1,a4⟩:=lG.mp h12;have k23:∀s∈L,cs.getD s 0%8=2\/cs.getD s 0%8=3:=λs hs=>by
   obtain⟨h1,h2,h3⟩:=(lm s).mp hs;have b1:=(kz ⋯).mp a1 s h1 h2;have b4:=(kz ⋯).mp a4 s h1 h2;have b5:=(kz ⋯).mp a5 s h1 h2;rcases g0.pv s with z | z
   .exact cJ z h2
   .exact ZE z b1 b4 b5 h3
  by_cases h2:().kd 2=0
  .rw[cG h2];have k3:∀s∈L,cs.getD s 0%8=3:=λs hs=>by
    obtain⟨i1,i2,i3⟩:=(lm s).mp hs;have b:=(kz ⋯).mp h2 s i1 i2;rcases k23 s hs with z | z
    .exact cJ z b
    .exact z
   have sq:∀s,Ke (dL F R cc) s=(s%F+s/F)%2:=λs=>by
    show(s%F+s/F) &&& 1=_;exact Nat.and_one_is_mod _
   have s3:∀s,s∈oY (().kd 3)↔s∈L:=λs=>by
    rw[ub (by rw[LD ⋯];exact abt hz),qZ ⋯];exact⟨λh=>(lm s).mpr ⟨h.1,h.2.1,by rw[h.2.2];decide⟩,λh=>by have h':=(lm s).mp h;exact⟨h'.1,h'.2.1,k3 s h⟩⟩
   have le:z8 (dL F R cc) ()<4:=MH _ (λs=>by rw[sq];lia) _ 0 ⋯;have tb:∀i,(z8 (dL F R cc) ()).testBit i=b9↔∃s∈L,(s%F+s/F)%2=i:=λi=>by
    unfold z8;rw[PP];simp only[dy,lC,false_or,s3,sq]
   rw[de,cA,Ne,OC le,tb,tb,bl];constructor
   .intro h;refine .inr ?_;by_cases h0:∃s∈L,(s%F+s/F)%2=0
    .refine .inl λs hs=>?_;have:(s%F+s/F)%2≠1:=λe=>h ⟨h0,s,hs,e⟩;exact iJ (k3 s hs) (show(s%F+s/F)%2=0 by lia)
    .refine .inr λs hs=>?_;have:(s%F+s/F)%2≠0:=λe=>h0 ⟨s,hs,e⟩;exact iJ (k3 s hs) (show(s%F+s/F)%2=1 by lia)
   .rintro h ⟨⟨s,hs,e0⟩,r,hr,e1⟩;rcases h with(h | h) | (h | h)
    .obtain⟨s',e,h'⟩:=(one 0).mp h;have a:=f1 _ _ _ h';rw[e,dX] at hs;have b:=k3 s' (by rw[e];exact .head _);lia
    .obtain⟨s',e,h'⟩:=(one 1).mp h;have a:=f1 _ _ _ h';have b:=k3 s' (by rw[e];exact .head _);lia
    .have:=(jB (h r hr)).2;lia
    .have:=(jB (h s hs)).2;lia
  .rw[cH h2];obtain⟨s2,hs2,e2⟩:=inL ⋯ h2 ⋯;rw[de,ax,dg,cA,cF,Ne,mh,xL h2,bl];constructor
   .rintro⟨h3,k,hk⟩;have b2:∀s,s∈L↔s=k:=λs=>by
     rw[<- hk s,qZ ⋯,lm];refine⟨λh=>⟨h.1,h.2.1,?_⟩,λh=>⟨h.1,h.2.1,by rw[h.2.2];decide⟩⟩;have b:=(kz ⋯).mp h3 s h.1 h.2.1;rcases k23 s ((lm s).mpr h) with z | z
     .exact z
     .exact cJ z b
    have e:=Px ln b2;have kk:cs.getD k 0%8=2:=by rw[<- (b2 s2).mp hs2];exact e2
    rcases (by lia:(k%F+k/F)%2=0\/(k%F+k/F)%2=1) with z | z
    .exact .inl (.inl ((one 0).mpr ⟨k,e,iJ kk z⟩))
    .exact .inl (.inr ((one 1).mpr ⟨k,e,iJ kk z⟩))
   .intro h;have go:∀x,wP F cs=[(2,x)]->().kd 3=0/\∃k,∀i,(().kd 2).testBit i=b9↔i=k:=λx h=>by
     obtain⟨s',e,h'⟩:=(one x).mp h;have a:=f1 _ _ _ h';have is:∀s,s∈L↔s=s':=λs=>by rw[e,dX]
     constructor
     .refine(kz ⋯).mpr λs i1 i2 i3=>?_;have:=(is s).mp ((lm s).mpr ⟨i1,i2,by rw[i3];decide⟩);rw[this] at i3;lia
     .refine⟨s',λi=>?_⟩;rw[qZ ⋯,<-is i,lm];refine⟨λh=>⟨h.1,h.2.1,by rw[h.2.2];decide⟩,λh=>⟨h.1,h.2.1,?_⟩⟩;rw[(is i).mp ((lm i).mpr h)];exact a
    rcases h with(h | h) | (h | h)
    .exact go 0 h
    .exact go 1 h
    .have:=f1 _ _ _ (h s2 hs2);lia
    .have:=f1 _ _ _ (h s2 hs2);lia
 .rw[cG hA];refine(eL.mpr λh=>hA ?_).symm;have no:∀k,k<7->k≠6->k≠2->k≠3->().kd k=0:=λk hk k6 k2 k3=>by
   refine cM λz=>?_;obtain⟨s,hs,e⟩:=inL k6 z hk;rcases al s hs h with z | z<;>lia
  rw[no 1 ⋯ ⋯ ⋯ ⋯,no 4 ⋯ ⋯ ⋯ ⋯,no 5 ⋯ ⋯ ⋯ ⋯];rfl
end
section
variable{s t a d g au az aA av kx K x c n m k pr i:Nat}{cs:List Nat}{ay:List V}
def Kn(F R:Nat)(cs:List Nat)(s t pr:Nat):Nat:=if pV F R cs s t then cs.getD s 0/8*8+2+pr else cs.getD s 0
theorem u7(hl:cs.length=F*R)(hs:s<F*R)(ht:t<F*R)(ne:s≠t)(i:Nat):(li F R cs s t pr).getD i 0=if i=s then 0 else if i=t then Kn F R cs s t pr else cs.getD i 0:=by
 revert i;ext s t pr cs;ext i;have ag:=GB hl hs ht ne;unfold li Kn;by_cases h:pV F R cs s t
 .rw[cG h,cG h];by_cases h2:i=t
  .subst h2;rw[oB (by unfold oz;simp;lia),cH (dT ne),cG rfl]
  .rw[im i h2,ag,cH h2,cH h2]
 .rw[cH h,cH h,ag]
theorem Tr:(li F R cs s t pr).length=cs.length:=by
 unfold li oz;split<;>simp
structure FD (F R:Nat) (cs:List Nat) (au s t:Nat):Prop where
 hs:s<F*R
 ht:t<F*R
 ne:s≠t
 v:cs.getD s 0≠0
 c:cs.getD s 0/8=au
 g:t∈ou F R cs s
 o:cs.getD t 0=0\/cs.getD t 0/8≠au
 nk:∀c k,c<2->(∀i,cs.getD i 0=c*8+6↔i=k)->k≠t
theorem vL(g:Gp F R cs au az)(m:(s,t)∈rd F R cs au):FD F R cs au s t:=by
 ext s t au az cs;obtain⟨h1,h2,h3,h4⟩:=rE.mp m;have g0:=g.cg;have hs:s<F*R:=by rw[<- g0.cl.l];exact h1
 have tl:=qL g0.cl g0.pw hs h4;have ot:=tD h4;have h3:cs.getD s 0/8=au:=h3;have h2:cs.getD s 0≠0:=h2;have h4:t∈ou F R cs s:=h4;have ot:cs.getD t 0=0\/cs.getD t 0/8≠au:=by rw[<- h3];exact ot
 have aX:=g.sd;refine⟨hs,tl,λe=>?_,h2,h3,h4,ot,λc k hc hk e=>?_⟩
 .rw[<- e] at ot;rcases ot with z | z
  .exact h2 z
  .exact z h3
 ext c k
 .subst e;have kv:=(hk k).mpr rfl;have kc:c=1 - au:=ot.elim (λz=>cJ z (PW kv).2.2) λz=>oth (by assumption) (by assumption) λe=>z ((PW kv).1.trans e);rcases yF g0 h2 h4 with⟨hq,_⟩ | ⟨_,_,z⟩
  .have sf:=g.sf;have e14:14 - 8*au=c*8+6:=by rw[kc];exact(RK (by assumption)).1.symm
   have hkl:k<F*R:=tl;rw[e14,(xa g0.cl.l hkl hk).2] at sf;rw[h3] at hq;refine(Av g0 (by lia)).mp sf s ⟨hs,h2,?_,?_⟩
   .lia
   .have e:1 - (1 - au)=au:=ff2 (by assumption);rw[e];exact hq
  .lia
theorem Jk(g0:xx F R cs)(L:FD F R cs au s t)(hp:pr<4)(hc:c<2)(hk:∀i,cs.getD i 0=c*8+6↔i=K)(i:Nat):(li F R cs s t pr).getD i 0=c*8+6↔i=rX K s t:=by
 revert i;ext s t au K c pr cs;ext i;have ne:=L.ne;have kt:=L.nk c K hc hk;rw[u7 g0.cl.l L.hs L.ht ne];unfold rX;by_cases h1:i=s
 .subst h1;rw[cG rfl];split
  .exact⟨λh=>by lia,λh=>cJ h ne⟩
  .rename_i h;exact⟨λh=>by lia,λz=>cJ z h⟩
 .rw[cH h1];by_cases h2:i=t
  .subst h2;rw[cG rfl];unfold Kn;by_cases h:pV F R cs s i
   .rw[cG h];have sk:s≠K:=λe=>by
     have:=(hk s).mpr e;have:=h.1;lia
    rw[cH sk];exact⟨λz=>by lia,λz=>cJ z.symm kt⟩
   .rw[cH h,hk];split
    .rename_i h;exact⟨λ_=>rfl,λ_=>h⟩
    .rename_i h;exact⟨λz=>cJ z h,λz=>cJ z.symm kt⟩
  .rw[cH h2,hk];split
   .rename_i h;subst h;exact⟨λz=>cJ z h1,λz=>cJ z h2⟩
   .exact Iff.rfl
theorem CX(g0:xx F R cs)(L:FD F R cs au s t)(hp:pr<4):Kn F R cs s t pr/8=au/\Kn F R cs s t pr<16/\1<=Kn F R cs s t pr%8/\Kn F R cs s t pr%8<=6:=by
 have h:=L.c;have hv:=g0.cl.v s;have pv:=Mn g0 L.v;unfold Kn;split
 .exact Un hp h hv
 .exact⟨h,hv,pv⟩
theorem VB(g0:xx F R cs)(L:FD F R cs au s t)(hp:pr<4)(i:Nat):(li F R cs s t pr).getD i 0<16/\((li F R cs s t pr).getD i 0=0\/1<=(li F R cs s t pr).getD i 0%8/\(li F R cs s t pr).getD i 0%8<=6):=by
 have z:=CX (pr:=pr) g0 L hp;rw[u7 g0.cl.l L.hs L.ht L.ne];split
 .exact⟨by decide,.inl rfl⟩
 .split
  .exact⟨z.2.1,.inr z.2.2⟩
  .exact⟨g0.cl.v i,g0.pv i⟩
theorem KV(g0:xx F R cs)(L:FD F R cs au s t)(hp:pr<4):xx F R (li F R cs s t pr):=by
 ext s t au pr cs;have kk:∀c,c<2->∃k,k<F*R/\∀i,(li F R cs s t pr).getD i 0=c*8+6↔i=k:=λc hc=>by
  ext c;obtain⟨K,hK,hk⟩:=g0.king hc;exact⟨rX K s t,by unfold rX;split;exact L.ht;exact hK,Jk g0 L hp hc hk⟩
 refine⟨⟨g0.cl.bd,Tr.trans g0.cl.l,λi=>(VB g0 L hp i).1⟩,λi=>(VB g0 L hp i).2,kk 0 ⋯,kk 1 ⋯,λi hi h=>?_⟩;ext i;rw[u7 g0.cl.l L.hs L.ht L.ne] at h;split at h
 .cases h
 .split at h
  .rename_i e;subst e;unfold Kn at h;split at h
   .lia
   .rename_i np;have hF:=g0.cl.bd.f;have n1:¬(i/F=0\/i/F=R - 1):=λz=>np ⟨h,z⟩;have r1:i/F<R:=hB hi;constructor
    .refine d7 λz=>n1 (.inl (hO z))
    .have a1:i/F+1<R:=by
      revert n1 r1;generalize i/F=q;intro n1 r1;lia
     have a2:i<F*(i/F+1):=kR i (by lia);have a3:F*(i/F+1+1)<=F*R:=ig F a1;rw[Nat.mul_add F (i/F+1) 1] at a3;lia
  .exact g0.pw i hi h
theorem Yn(g:Gp F R cs au az)(L:FD F R cs au s t)(f:tf F R cs s t=b9)(hp:pr<4):tL F R (li F R cs s t pr) ((li F R cs s t pr).idxOf (14 - 8*(1 - au))) (1 - (1 - au))=b9:=by
 ext s t au az pr cs;have g0:=g.cg;have aX:=g.sd;obtain⟨K,hK,hk⟩:=g0.king aX;ext K;have e1:14 - 8*(1 - au)=au*8+6:=(RK aX).2;have e2:1 - (1 - au)=au:=ff2 aX;have kl:rX K s t<F*R:=by unfold rX;split;exact L.ht;exact hK
 have g1:=KV (pr:=pr) g0 L hp;rw[e1,e2,(xa g1.cl.l kl (Jk g0 L hp aX hk)).2,Av g1 aX];have ff:=(EM g0 L.hs L.ht L.ne ⟨L.v,L.c⟩ aX L.o hk hK).mp f;rintro a ⟨h1,h2,h3,h4⟩;ext a;have ng:=u7 (pr:=pr) g0.cl.l L.hs L.ht L.ne;have nvs:=CX (pr:=pr) g0 L hp;have oc:u4 (li F R cs s t pr)=zr cs s t:=by
  funext x;ext x;unfold u4 zr;rw[ng];by_cases x1:x=s
  .subst x1;rw[cG rfl,cD (p:=x=t) L.ne];simp
  .rw[cH x1];by_cases x2:x=t
   .subst x2;rw[cG rfl];simp only[decide_true,lZ];exact cC (by lia)
   .rw[cH x2];simp [x1,x2]
 have as:a≠s:=λe=>by rw[ng,cG e] at h2;exact h2 rfl
 have at':a≠t:=λe=>by rw[ng,cH as,cG e] at h3;lia
 rw[ng,cH as,cH at'] at h2 h3 h4;rw[oc] at h4;exact ff a at' ⟨h1,h2,h3,h4⟩
theorem An:∀n i,(sU F R cs az n).testBit i=(cu (i<n)&&wK F R cs az i)
 | 0,i=>by show(0:Nat).testBit i=_;simp
 | n+1,i=>by
  have e:(sU F R cs az (n+1)).testBit i=((sU F R cs az n).testBit i||(cu (n=i)&&wK F R cs az n)):=by
   show(if wK F R cs az n=b9 then sU F R cs az n ||| 1 <<< n else sU F R cs az n).testBit i=_;by_cases h:wK F R cs az n=b9
   .rw[cG h,dz,qf,dq,h,jH]
   .rw[cH h,(by simpa using h:wK F R cs az n=cj),fZ,iV]
  rw[e,An n i];by_cases h1:n=i
  .subst h1;simp
  .have:cu (i<n+1)=cu (i<n):=by rw[decide_eq_decide];lia
   rw[this,cD h1];simp
theorem TF:sU F R cs az 4<16:=by
 refine ie (n:=4) _ λi hi=>?_;rw[An,cD (by lia)];rfl
theorem MB(g:Gp F R cs au az)(m:(s,t)∈rd F R cs au)(f:tf F R cs s t=b9)(hp:pr<4):Gp F R (li F R cs s t pr) (1 - au) (sU F R (li F R cs s t pr) az 4):=by
 ext s t au az pr cs;have L:=vL g m;have aX:=g.sd;refine⟨KV g.cg L hp,Yn g L f hp,λi hi h=>?_,by lia,TF⟩;ext i;have h:=tI.mp h;rw[An,ax] at h;have h:=h.2;unfold wK at h;rw[ax,ax,cA,cA,cA] at h;have home:=g.rt i hi h.1;unfold wV at home ⊢;rw[ax,ax,cA,cA] at home;obtain⟨eF,eR,_⟩:=home;rw[eF,eR] at h ⊢;rw[ax,ax,ax,cA,cA,cA,cA];have a1:i/2*7*(3 - 1)=i/2*14:=by lia
 rw[a1] at h;exact⟨rfl,rfl,h.2.1,h.2.2⟩
theorem Q9:((cn 21).all λx=>(cn 4).all λi=>((dL 7 3 b9).lost.getD x 0).testBit i == (cu (x=i/2*14+3)||decide (x=i/2*14+6*(1 - i%2))))=b9:=by decide +kernel
theorem Ix(hx:x<21)(hi:i<4):((dL 7 3 b9).lost.getD x 0).testBit i=b9↔x=i/2*14+3\/x=i/2*14+6*(1 - i%2):=by
 rw[cK (cN.mp (cN.mp Q9 x (cO.mpr hx)) i (cO.mpr hi)),cW,cA,cA]
theorem Pl(g:Gp 3 4 cs au az):az=0:=by
 refine d0 λi=>?_;rw[dy];refine eL.mpr λz=>?_;by_cases hi:i<4
 .have:=g.rt i hi (tI.mpr z);unfold wV at this;simp at this
 .have h16:=g.r16;have:az.testBit i=cj:=j9 (cQ h16 (eG (n:=2) ⋯ (show 4<=i by lia)));rw[this] at z;cases z
theorem UG(hcc:Cc F R cc)(g:Gp F R cs au az)(m:(s,t)∈rd F R cs au)(hp:pr<4):xC (dL F R cc) () s t=sU F R (li F R cs s t pr) az 4:=by
 ext s t au az aA av kx pr cs ay;have L:=vL g m;have er:xC (dL F R cc) () s t=oq az ((dL F R cc).lost.getD s 0 ||| (dL F R cc).lost.getD t 0):=rfl;rw[er];refine d0 λi=>?_;ext i;rw[qk,An,de];by_cases hr:az.testBit i=b9
 .have hi:i<4:=cM λz=>by
   have h16:=g.r16;have:az.testBit i=cj:=j9 (cQ h16 (eG (n:=2) ⋯ (show 4<=i by lia)));rw[this] at hr;cases hr
  rw[hr,cC hi,eU,eU];rcases hcc with⟨eF,eR,_⟩ | ⟨eF,eR,ec⟩
  .rw[eF,eR] at g;rw[Pl g,dy] at hr;cases hr
  .have home:=g.rt i hi (tI.mpr hr);rw[eF,eR,ec];rw[eF,eR] at home;unfold wV at home;rw[ax,ax,ax,cA,cA,cA,cA] at home;obtain⟨_,_,h1,h2⟩:=home;have ng:=u7 (pr:=pr) g.cg.cl.l L.hs L.ht L.ne;have nvs:=CX (pr:=pr) g.cg L hp;have ot:=L.o;rw[eF,eR] at ng nvs;have ke:∀q,cs.getD q 0≠0->((li 7 3 cs s t pr).getD q 0=cs.getD q 0↔q≠s/\q≠t):=λq h0=>by
    ext q;rw[ng];by_cases q1:q=s
    .rw[cG q1];exact⟨λe=>cJ e.symm h0,λe=>cJ q1 e.1⟩
    .rw[cH q1];by_cases q2:q=t
     .rw[cG q2,<-q2];rw[<- q2] at ot nvs;refine⟨λe=>?_,λe=>cJ rfl e.2⟩;rcases ot with z | z<;>lia
     .rw[cH q2];exact⟨λw=>⟨q1,q2⟩,λw=>rfl⟩
   have a1:i/2*7*(3 - 1)=i/2*14:=by lia
   unfold wK;rw[ax,ax,cA,cA,cA,a1,<-h1,<-h2];rw[ke _ (by rw[h1];lia),ke _ (by rw[h2];lia),dg,eL,Ne,dz,cW,Ix (by have:=L.hs;rw[eF,eR] at this;lia) hi,Ix (by have:=L.ht;rw[eF,eR] at this;lia) hi];have hr':=tI.mpr hr;constructor
   .intro h;exact⟨hr',⟨λe=>h (.inl (.inl e.symm)),λe=>h (.inr (.inl e.symm))⟩,⟨λe=>h (.inl (.inr e.symm)),λe=>h (.inr (.inr e.symm))⟩⟩
   .rintro⟨_,⟨x1,x2⟩,x3,x4⟩ ((e | e) | (e | e))
    .exact x1 e.symm
    .exact x3 e.symm
    .exact x2 e.symm
    .exact x4 e.symm
 .have hr':¬az >>> i &&& 1≠0:=λz=>hr (tI.mp z);unfold wK;rw[cD hr',(by simpa using hr:az.testBit i=cj)];simp
end
section
variable{s t s' t' au az pr pr' n i j k m:Nat}{cs ds:List Nat}{S S':qv}
def Gq(n v s:Nat):Nat:=if v=0 then 0 else if v=1 then 100+(n - s) else if v=9 then 100+s else 100
def Cb(f:Nat->Nat):Nat->Nat
 | 0=>0
 | n+1=>Cb f n+f n
theorem F6:∀n,(∀i,i<n->g i=f i)->Cb g n=Cb f n
 | 0,_=>rfl
 | n+1,h=>by
  show Cb g n+g n=Cb f n+f n;rw[F6 n λi hi=>h i (by lia),h n (by lia)]
theorem G5(h:∀i,i≠s->g i=f i):∀n,s<n->Cb g n+f s=Cb f n+g s
 | 0,h0=>cJ h0 (fE _)
 | n+1,h0=>by
  show Cb g n+g n+f s=Cb f n+f n+g s;by_cases e:s=n
  .subst e;have:=F6 (f:=f) (g:=g) s λi hi=>h i (by lia);lia
  .have a:=G5 h n (by lia);have b:=h n (dT e);lia
theorem Us{f g:Nat->Nat}(hs:s<n)(ht:t<n)(ne:s≠t)(h:∀i,i≠s->i≠t->g i=f i):Cb g n+(f s+f t)=Cb f n+(g s+g t):=by
 ext s t n f g;have a:=G5 (f:=f) (g:=λi=>if i=s then g s else f i) (s:=s) (λi hi=>cH hi) n hs;have b:=G5 (f:=λi=>if i=s then g s else f i) (g:=g) (s:=t) (λi hi=>by
  by_cases e:i=s
  .subst e;exact(cG rfl).symm
  .exact(h i e hi).trans (cH e).symm) n ht
 have e1:(if s=s then g s else f s)=g s:=cG rfl;have e2:(if t=s then g s else f t)=f t:=cH (dT ne);simp only[e1,e2,if_true] at a b;lia
def Tc(F R:Nat)(cs:List Nat):Nat:=Cb (λi=>Gq (F*R) (cs.getD i 0) i) (F*R)
theorem Yq(h:k≠0):100<=Gq n k s:=by
 unfold Gq;rw[cH h];split
 .lia
 .split<;>lia
theorem Ds(h:k%8≠1)(h0:k≠0):Gq n k s=100:=by
 unfold Gq;rw[cH h0,cH (by lia),cH (by lia)]
theorem QN(g0:xx F R cs)(hc:au<2)(L:FD F R cs au s t)(hp:pr<4):Tc F R (li F R cs s t pr)<=Tc F R cs/\(¬vk cs s t->Tc F R (li F R cs s t pr)<Tc F R cs):=by
 ext s t au pr cs;have ng:=u7 (pr:=pr) g0.cl.l L.hs L.ht L.ne;have z:=Us (n:=F*R) (f:=λi=>Gq (F*R) (cs.getD i 0) i) (g:=λi=>Gq (F*R) ((li F R cs s t pr).getD i 0) i) L.hs L.ht L.ne λi h1 h2=>by rw[ng,cH h1,cH h2]
 have gs:(li F R cs s t pr).getD s 0=0:=by rw[ng,cG rfl]
 have gt:(li F R cs s t pr).getD t 0=Kn F R cs s t pr:=by rw[ng,cH (dT L.ne),cG rfl]
 have w0:Gq (F*R) 0 s=0:=rfl;rw[gs,gt,w0] at z;have z:Tc F R (li F R cs s t pr)+(Gq (F*R) (cs.getD s 0) s+Gq (F*R) (cs.getD t 0) t)=Tc F R cs+(0+Gq (F*R) (Kn F R cs s t pr) t):=z;have hF:=g0.cl.bd.f;have le:Gq (F*R) (Kn F R cs s t pr) t<=Gq (F*R) (cs.getD s 0) s/\(cs.getD s 0%8=1->Gq (F*R) (Kn F R cs s t pr) t<Gq (F*R) (cs.getD s 0) s):=by
  by_cases p1:cs.getD s 0%8=1
  .suffices h:Gq (F*R) (Kn F R cs s t pr) t<Gq (F*R) (cs.getD s 0) s from⟨dJ h,λw=>h⟩
   have pk:=g0.pw s L.hs p1;have hs:=L.hs;have lc:=L.c;have pg:=By g0 hc (s:=s) ⟨L.hs,L.v,L.c,p1⟩ L.g;have dir:if au=0 then s<t else t<s:=by
    unfold xd KZ at pg;by_cases h0:au=0
    .rw[cG h0] at pg ⊢;rcases pg with⟨_,e⟩ | ⟨_,_,wg,_,e⟩
     .lia
     .by_cases hw:wg=0
      .rw[cG hw,ax,cA,cA] at e;lia
      .rw[cH hw,ax,cA,cA] at e;lia
    .rw[cH h0] at pg ⊢;rcases pg with⟨_,e⟩ | ⟨_,_,wg,_,e⟩
     .lia
     .by_cases hw:wg=0
      .rw[cG hw,ax,cA,cA] at e;lia
      .rw[cH hw,ax,cA,cA] at e;lia
   have wb:100<Gq (F*R) (cs.getD s 0) s:=by
    unfold Gq;rw[cH L.v];by_cases h0:au=0
    .rw[cG (by lia)];lia
    .rw[cH (by lia),cG (by lia)];lia
   unfold Kn;by_cases h:pV F R cs s t
   .rw[cG h,Ds (by lia) (by lia)];exact wb
   .rw[cH h];have ht:=L.ht;unfold Gq;rw[cH L.v,cH L.v];by_cases h0:au=0
    .rw[cG h0] at dir;rw[cG (by lia),cG (by lia)];lia
    .rw[cH h0] at dir;rw[cH (by lia),cG (by lia),cH (by lia),cG (by lia)];lia
  .refine⟨?_,λz=>cJ z p1⟩;unfold Kn;rw[cH (λh=>p1 h.1),Ds p1 L.v,Ds p1 L.v];exact da _
 refine⟨by lia,λq=>?_⟩;unfold vk at q;by_cases h1:cs.getD s 0%8=1
 .have:=le.2 h1;lia
 .have h2:cs.getD t 0≠0:=λe=>q ⟨e,h1⟩;have:=Yq (n:=F*R) (s:=t) h2;lia
theorem EF:(sR n sd r).testBit x=(cu (15*n+r=x) ^^ (cu (sd=1)&&cu (15*n+16=x))):=by
 unfold sR;rw[fk,qf,dq];by_cases h:sd=1
 .rw[cG h,qf,dq,cC h,eU]
 .rw[cH h,dy,cD h,kO]
theorem Nl{sd r v:Nat}(hn:0<n)(hi:i<n)(h0:v≠0)(hv:v<15):(Ac n cs ^^^ sR n sd r).testBit (v*n+i)=cu (cs.getD i 0=v):=by
 ext n i cs sd r v;have l:v*n+i<15*n:=by
  have:=dQ n (show v+1<=15 from hv);rw[jz] at this;lia
 have e1:(v*n+i)/n=v:=by rw[dY,ki _ _ hn,hO hi,d6]
 have e2:(v*n+i)%n=i:=by rw[dY,jn,hZ hi]
 rw[fk,EF];unfold Ac;rw[pX,e1,e2,cC l,cC h0,cD (p:=15*n+r=v*n+i) (by lia),cD (p:=15*n+16=v*n+i) (by lia)];simp
theorem v15(g0:xx F R cs)(i:Nat):cs.getD i 0<15:=by
 have:=g0.cl.v i;rcases g0.pv i with z | z<;>lia
theorem Vb(h:cs.length=ds.length)(e:∀i,cs.getD i 0=ds.getD i 0):cs=ds:=by
 refine jT h λi h1 h2=>?_;have:=e i
 rwa [ba,ba,a7 h1,a7 h2] at this
theorem M5(g:Gp F R S.1 S.2.1 S.2.2)(g':Gp F R S'.1 S'.2.1 S'.2.2)(e:yR (F*R) S=yR (F*R) S'):S=S':=by
 ext S S';obtain⟨cs,sd,r⟩:=S;ext cs sd r;obtain⟨ds,sd',r'⟩:=S';dsimp only at g g' e;unfold yR at e;dsimp only at e;have hn:0<F*R:=Nat.mul_pos (by have:=g.cg.cl.bd.f;lia) (by have:=g.cg.cl.bd.r;lia);have hl:=g.cg.cl.l;have hl':=g'.cg.cl.l;have h1:=g.sd;have h2:=g'.sd;have r1:=g.r16;have r2:=g'.r16;have ec:cs=ds:=by
  refine Vb (hl.trans hl'.symm) λi=>?_;by_cases hi:i<F*R
  .have b:∀v,v≠0->v<15->(cs.getD i 0=v↔ds.getD i 0=v):=λv h0 hv=>by
    have a1:=Nl (cs:=cs) (sd:=sd) (r:=r) hn hi h0 hv;rw[e,Nl hn hi h0 hv] at a1;rw[decide_eq_decide] at a1;exact a1.symm
   by_cases z:cs.getD i 0=0
   .by_cases z':ds.getD i 0=0
    .rw[z,z']
    .exact(b _ z' (v15 g'.cg i)).mpr rfl
   .exact((b _ z (v15 g.cg i)).mp rfl).symm
  .rw[w5 (by lia),w5 (by lia)]
 ext ds sd' r';subst ec;have ek:sR (F*R) sd r=sR (F*R) sd' r':=by
  have:=cI (Ac (F*R) cs ^^^ ·) e
  rwa [<- eh,<-eh,ji,j8,j8] at this
 have b1:=cI (·.testBit (15*(F*R)+16)) ek;have b2:=cI (·.testBit (15*(F*R)+r)) ek;rw[EF,EF,cD (p:=15*(F*R)+r=15*(F*R)+16) (by lia),cD (p:=15*(F*R)+r'=15*(F*R)+16) (by lia)] at b1;rw[EF,EF,cD (p:=15*(F*R)+16=15*(F*R)+r) (by lia)] at b2;simp at b1 b2;have es:sd=sd':=by lia
 have er:r=r':=by lia
 rw[es,er]
theorem Uh(g0:xx F R cs)(hc:au<2)(L:FD F R cs au s t)(hp:pr<4)(L':FD F R (li F R cs s t pr) (1 - au) s' t')(hp':pr'<4):li F R (li F R cs s t pr) s' t' pr'≠cs:=by
 ext s t s' t' au pr pr' cs;exact λe=>by
  have g1:=KV (pr:=pr) g0 L hp;have a:=u7 (pr:=pr) g0.cl.l L.hs L.ht L.ne s;have b:=u7 (pr:=pr') g1.cl.l L'.hs L'.ht L'.ne s;have nvs:=CX (pr:=pr') g1 L' hp';have v:=L.v;have c:=L.c;rw[cG rfl] at a;rw[e,a] at b;split at b
  .exact v b
  .split at b
   .rw[<- b] at nvs;lia
   .exact v b
end
section
variable{s t au az pr n i j k m aA aC h0 av:Nat}{cs ds:List Nat}{S S' S0 X Y:qv}{SS:List qv}{aB c:Bool}{ay:List V}{P:Ps}{ks:List Nat}
def Yu(F R:Nat)(S:qv):Prop:=Gp F R S.1 S.2.1 S.2.2
theorem KK(g:Yu F R S)(L:H5 F R S s t):FD F R S.1 S.2.1 s t:=vL g L.m
theorem UJ(g:Yu F R S)(L:H5 F R S s t)(hp:pr<4):Yu F R (rG F R S s t pr):=MB g L.m L.f hp
structure ChI (F R:Nat) (S0:qv) (h0:Nat) (SS:List qv) (aA aC:Nat) (aB:Bool):Prop where
 gp:∀(i:Nat) X,SS[i]? =J X->Yu F R X
 par:∀(i:Nat) X,SS[i]? =J X->(X.2.1+i)%2=S0.2.1%2
 st:∀(i:Nat) X Y,SS[i]? =J X->SS[i+1]? =J Y->∃s t pr,H5 F R X s t/\pr<4/\Y=rG F R X s t pr
 lt:aC<SS.length
 hf:aC=0/\aA=h0+(SS.length - 1)\/aA+aC+1=SS.length
 ph:∀S,SS.getLast? =J S->∀(i:Nat) X,SS[i]? =J X->Tc F R S.1<=Tc F R X.1/\(i<aC->Tc F R S.1<Tc F R X.1)
 ag:aB=b9↔∃(i j:Nat) (X:qv),aC<=i/\i<j/\SS[i]? =J X/\SS[j]? =J X
theorem sH(h:(l++[x])[i]? =J y):l[i]? =J y\/i=l.length/\y=x:=by
 by_cases e:i<l.length
 .rw[ae e] at h;exact .inl h
 .rw[cT (by lia)] at h;by_cases e2:i - l.length=0
  .rw[e2] at h;exact .inr ⟨by lia,(cL h).symm⟩
  .rw[eI (by simp;lia)] at h;cases h
theorem M3{l:List α}{x:α}(h:l.getLast? =J x):l[l.length - 1]? =J x:=by rw[<- fG];exact h
theorem Ry(g:Yu F R S0)(C:uZ F R S0 h0 SS aA aC aB):ChI F R S0 h0 SS aA aC aB:=by
 ext aA aC h0 S0 SS aB
 induction C with
 | base=>
  have one:∀{i:Nat} {X:qv},[S0][i]? =J X->i=0/\X=S0:=λ{i X} h=>by
   rcases sH (l:=[]) h with z | z
   .cases z
   .exact z
  refine⟨λi X h=>by rw[(one h).2];exact g,λi X h=>by rw[(one h).1,(one h).2];rfl,λi X Y w h=>cJ (one h).1 (iQ _),by simp,.inl ⟨rfl,rfl⟩,λS h i X hX=>?_,⟨λh=>Bool.noConfusion h,λ⟨i,j,X,_,h1,h2,h3⟩=>by have:=(one h3).1;lia⟩⟩;have e:S0=S:=cL h;rw[(one hX).2,<-e];exact⟨da _,λh=>cJ h (fE _)⟩
 | @step SS aA aC aB S s t pr C l L hp ih=>
  have lg:=M3 l;have gS:=ih.gp _ _ lg;have gN:=UJ (pr:=pr) gS L hp;have ll:=ih.lt;have LF:=KK gS L;have ps:=QN gS.cg gS.sd LF hp;have nx:(rG F R S s t pr).1=li F R S.1 s t pr:=rfl;have ns:(rG F R S s t pr).2.1=1 - S.2.1:=rfl;refine⟨λi X h=>?_,λi X h=>?_,λi X Y h h'=>?_,?_,?_,λS' h i X hX=>?_,?_⟩
  .rcases sH h with z | z
   .exact ih.gp i X z
   .rw[z.2];exact gN
  .rcases sH h with z | z
   .exact ih.par i X z
   .have p:=ih.par _ _ lg;have sd:=gS.sd;rw[z.2,z.1,ns];lia
  .rcases sH h' with z | z
   .rcases sH h with y | y
    .exact ih.st i X Y y z
    .rw[y.1,eI (by lia)] at z;cases z
   .rcases sH h with y | y
    .have e:i=SS.length - 1:=by lia
     rw[e,lg] at y;rw[<- cL y,z.2];exact⟨s,t,pr,L,hp,rfl⟩
    .lia
  .rw[a6];show _<SS.length+1;split<;>lia
  .rw[a6];show _\/_+_+1=SS.length+1;unfold sJ;by_cases q:vk S.1 s t
   .rw[cG q,cG q];rcases ih.hf with z | z
    .refine .inl ⟨z.1,?_⟩;show _=h0+(SS.length+1 - 1)
     lia
    .exact .inr (by lia)
   .rw[cH q,cH q];exact .inr (by lia)
  .rw[List.getLast?_concat] at h;have h:=cL h;rw[<- h,nx];rcases sH hX with z | z
   .have o:=ih.ph S l i X z;by_cases q:vk S.1 s t
    .rw[cG q];exact⟨cS ps.1 o.1,λhi=>ar ps.1 (o.2 hi)⟩
    .rw[cH q];exact⟨cS ps.1 o.1,λhi=>cQ (ps.2 q) o.1⟩
   .rw[z.2,nx];refine⟨da _,λhi=>?_⟩;rw[z.1] at hi;split at hi<;>lia
  .rw[cW,cA];by_cases q:vk S.1 s t
   .rw[cG q,cG q,ih.ag];constructor
    .rintro(⟨i,j,X,h1,h2,h3,h4⟩ | h)
     .exact⟨i,j,X,h1,h2,by rw[ae (f0 h3)];exact h3,by rw[ae (f0 h4)];exact h4⟩
     .obtain⟨i,hi⟩:=kD.mp h;rw[lH] at hi;have lt:=f0 hi;exact⟨aC+i,SS.length,_,by lia,lt,by rw[ae lt];exact hi,by rw[cT (da _),eE];rfl⟩
    .rintro⟨i,j,X,h1,h2,h3,h4⟩;rcases sH h3 with z | z
     .rcases sH h4 with y | y
      .exact .inl ⟨i,j,X,h1,h2,z,y⟩
      .refine .inr (kD.mpr ⟨i - aC,?_⟩);rw[lH,<-y.2,(by lia:aC+(i - aC)=i)];exact z
     .have lt:=f0 h4;rw[a6] at lt;have lt:j<SS.length+1:=lt;lia
   .rw[cH q,cH q,j3 (da _)];constructor
    .rintro(h | h)
     .cases h
     .cases h
    .rintro⟨i,j,X,h1,h2,h3,h4⟩;have lt:=f0 h4;rw[a6] at lt;have lt:j<SS.length+1:=lt;lia
theorem ar5(h:s+r=N)(h2:i+x=N)(h3:s<=i):x<=r:=by lia
theorem ar8(h:s+r=N)(h2:i+x=N)(h3:x<=r):s<=i:=by lia
theorem ar9(h:i+a=N)(h2:j+(a+4+2*b)=N):j<i:=by lia
theorem aaT(h:i+q+a=N):i+(a+q)=N:=by lia
theorem apart(I:ChI F R S0 h0 SS aA aC aB)(hi:SS[i]? =J X)(hj:SS[i+q]? =J X)(h:0<q):q%2=0/\4<=q:=by
 have e:q%2=0:=ar6 (I.par i X hi) (I.par _ X hj);refine⟨e,cM λz=>?_⟩;have ej:q=1+1:=ar7 e h z;subst ej;obtain⟨Y,hY⟩:=(⟨_,a7 (Nat.lt_of_succ_lt (f0 hj))⟩:∃Y,SS[i+1]? =J Y)
 obtain⟨s,t,pr,L,hp,eY⟩:=I.st i X Y hi hY;obtain⟨s',t',pr',L',hp',eX⟩:=I.st (i+1) Y X hY hj;have gX:=I.gp i X hi;have l2:=KK (I.gp _ Y hY) L';subst eY;exact Uh gX.cg gX.sd (KK gX L) hp l2 hp' (cI kM eX).symm
theorem EO:∀{l l':List Nat},l.Pairwise (·<·)->l'.Pairwise (·<·)->(∀x,x∈l↔x∈l')->l=l'
 | [],[],_,_,_=>rfl
 | [],b::l',_,_,h=>cJ ((h b).mpr (.head _)) (by simp)
 | a::l,[],_,_,h=>cJ ((h a).mp (.head _)) (by simp)
 | a::l,b::l',h1,h2,h=>by
  have p1:=lI.mp h1;have p2:=lI.mp h2;have ab:a=b:=by
   rcases dS.mp ((h a).mp (.head _)) with z | z
   .exact z
   .rcases dS.mp ((h b).mpr (.head _)) with y | y
    .exact y.symm
    .have:=p1.1 b y;have:=p2.1 a z;lia
  subst ab
  (rewrite [EO p1.2 p2.2 λx=>⟨λhx=>?_,λhx=>?_⟩];try with_reducible rfl)
  .rcases dS.mp ((h x).mp (.tail _ hx)) with z | z
   .have:=p1.1 x hx;lia
   .exact z
  .rcases dS.mp ((h x).mpr (.tail _ hx)) with z | z
   .have:=p2.1 x hx;lia
   .exact z
set_option tactic.hygienic true in
theorem Nk(n:Nat):x∈tJ P ks n↔∃j,j<n/\x=4+2*j/\CF P ks x=P.key:=by
 induction n with
 | zero=>exact⟨(nomatch ·),λ⟨_,h⟩=>cJ h.1 (fE _)⟩
 | succ n ih=>
  show x∈tJ P ks n++(if CF P ks (4+2*n)=P.key then[4+2*n] else[])↔_;rw[cV,ih];exact⟨λh=>h.elim (λ⟨j,h⟩=>⟨j,g7 h.1,h.2⟩) λh=>⟨n,dO _,dX.mp (Ap h).2,(dX.mp (Ap h).2).symm▸(Ap h).1⟩,
   λ⟨j,h⟩=>(jI.mp h.1).elim (λq=>.inl ⟨j,q,h.2⟩) λq=>.inr (by rw[cG (q▸h.2.1▸h.2.2),h.2.1,q];exact .head _)⟩
theorem Lf(n:Nat):(tJ P ks n).Pairwise (·<·):=by
 induction n with
 | zero=>exact List.Pairwise.nil
 | succ n ih=>
  refine List.pairwise_append.mpr ⟨ih,by split<;>simp,λa ha b hb=>?_⟩;obtain⟨j,h1,h2,_⟩:=(Nk n).mp ha;have:=dX.mp (Ap hb).2;lia
theorem Oo{x N:Nat}(hN:SS.length=N+1)(l:SS[N]? =J S):x∈w6 SS↔0<x/\∃i,i+x=N/\SS[i]? =J S:=by
 ext S SS x N;have gd:∀i,i<N->(SS.getD i ([],0,0)=SS.getD N ([],0,0)↔SS[i]? =J S):=λi hi=>by
  rw[ba,ba,l,a7 (hN▸g7 hi)];exact⟨λh=>cI J h,λh=>cL h⟩
 unfold w6;rw[ef,hN,fp];constructor
 .rintro⟨i,h,h3⟩;have h:=eo.mp h;have h1:=cO.mp h.1;exact⟨h3▸gr h1,i,h3▸jg (dJ h1),(gd i h1).mp (cy h.2)⟩
 .rintro⟨h1,i,h2,h3⟩;have hi:i<N:=h2▸fx h1;exact⟨i,eo.mpr ⟨cO.mpr hi,cC ((gd i hi).mpr h3)⟩,by rw[<- h2,d8]⟩
theorem Ij:(w6 SS).reverse.Pairwise (·<·):=by
 rw[List.pairwise_reverse];unfold w6;rw[List.pairwise_map];refine List.Pairwise.imp_of_mem ?_ (kQ _ List.pairwise_lt_range);intro a b _ hb h;exact kW (cX h (cO.mp (eo.mp hb).1)) h
theorem XU(I:ChI F R S0 h0 SS aA aC aB)(hN:SS.length=N+1)(hh:ay.length=N):∃r,aC+r=N/\rQ (pM (F*R) S aA av ay)=r:=by
 have e:rQ (pM (F*R) S aA av ay)=if aA<N then aA else N:=by rw[<- hh];rfl
 have lt:=I.lt;have hf:=I.hf;rw[e];rw[hN] at lt hf;rcases hf with⟨z,y⟩ | z
 .exact⟨N,by rw[z,d6],cH (by rw[y];exact fX.mpr (i0 _ _))⟩
 .have z:aA+aC=N:=gy z;refine⟨aA,(dY _ _).trans z,?_⟩;split
  .rfl
  .rename_i h;exact ix (fX.mp h) (z▸di _ _)
theorem F9(hN:SS.length=N+1)(l:SS[N]? =J S)(hi:i+k=N)(hX:SS[i]? =J X):CF (pM n S aA av ay) (SS.dropLast.map (yR n)) k=yR n X:=by
 unfold CF;by_cases e:k=0
 .subst e hi;rw[cG rfl];rw[jW,hX] at l;rw[cL l];rfl
 .rw[cH e,bj,hJ,hN,fp,<-hi,fp,ba,cY,List.getElem?_dropLast,hN,<-hi,fp,cG (fx (ei e)),hX];rfl
theorem Su(hN:SS.length=N+1)(h:k<=N):∃i X,i+k=N/\SS[i]? =J X:=
 ⟨N - k,_,eP h,a7 (hN▸gn (eO _ _))⟩
theorem XS(g:Yu F R S0)(C:uZ F R S0 h0 SS aA aC aB)(l:SS.getLast? =J S)(hh:ay.length+1=SS.length):
  tJ (pM (F*R) S aA av ay) (SS.dropLast.map (yR (F*R))) (rS (pM (F*R) S aA av ay))=(w6 SS).reverse/\LL (pM (F*R) S aA av ay) (SS.dropLast.map (yR (F*R)))=aB:=by
 ext aA aC h0 av S S0 SS aB ay;have I:=Ry g C;have hN:=hh.symm;have lg:=M3 l;rw[hN,fp] at lg;obtain⟨r,hr,rev⟩:=XU (S:=S) (av:=av) (ay:=ay) I hN rfl;ext r;have rN:r<=ay.length:=hr▸i0 _ _;constructor
 .refine EO (Lf _) Ij λx=>?_;ext x;rw[Nk,iS,Oo hN lg];unfold rS;rw[rev];constructor
  .rintro⟨j,h1,h2,h3⟩;have a:=ar1 h1 h2;obtain⟨i,X,hi,hX⟩:=Su hN (cS a.2 rN);rw[F9 hN lg hi hX] at h3;exact⟨a.1,i,hi,M5 (I.gp _ X hX) (I.gp _ S lg) h3▸hX⟩
  .rintro⟨h1,i,h2,h3⟩;have ap:=apart I h3 (h2.symm▸lg) h1;have sn:aC<=i:=fX.mp λz=>eZ _ ((I.ph S l _ S h3).2 z);obtain⟨j,j1,j2⟩:=ar2 ap (ar5 hr h2 sn);exact⟨j,j1,j2,F9 hN lg h2 h3⟩
 .rw[de,I.ag];unfold LL QX;rw[rev,ez];constructor
  .rintro⟨a,ha,h⟩;ext a;obtain⟨j,hj,h⟩:=ez.mp h;have le:=ar3 (cO.mp hj);obtain⟨i,X,hi,hX⟩:=Su (k:=a) hN (cS (Nat.lt_succ_iff.mp (cO.mp ha)) rN);obtain⟨i',Y,hi',hY⟩:=Su (k:=a+4+2*j) hN (cS le rN);have h:=cy h;rw[F9 hN lg hi hX,F9 hN lg hi' hY] at h;exact⟨i',i,X,ar8 hr hi' le,ar9 hi hi',M5 (I.gp _ X hX) (I.gp _ Y hY) h▸hY,hX⟩
  .rintro⟨i,j,X,h1,h2,h3,h4⟩;obtain⟨q,q0,e⟩:=(⟨j - i,gr h2,jg (dJ h2)⟩:∃q,0<q/\i+q=j)
   subst e;have ap:=apart I h3 h4 q0;obtain⟨a,ha⟩:=(⟨ay.length - (i+q),jg (dk (Nat.lt_of_lt_of_eq (f0 h4) hN))⟩:∃a,i+q+a=ay.length)
   have ha':i+(a+q)=ay.length:=aaT ha;obtain⟨j,j1,j2⟩:=ar4 (a:=a) ap (ar5 hr ha' h1);refine⟨a,cO.mpr (gn (cS (di _ _) (ar5 hr ha' h1))),ez.mpr ⟨j,cO.mpr j1,cC ?_⟩⟩;rw[j2,F9 hN lg ha h4,F9 hN lg ha' h3]
theorem Ze(hcc:Cc F R cc):PL F R cc where
 gd:=λS aA av ay g=>ZK hcc g
 chk:=λS aA av ay g=>WC g.cg g.sd
 has:=λS aA av ay g=>by
  rw[de,dg,eL,Ne,O3,mh];exact To hcc g
 aE:=λS aA av ay g=>Ur g.cg
 bV:=λS g=>WZ g.cg g.sd
 step:=λS s t pr g L hp=>MB g L.m L.f hp
 kept:=λS s t pr aA av ay g L hp=>UG hcc g L.m hp
 far:=λS s t g L h1=>by
  have f:=vL g L.m;exact UI g.cg g.sd ⟨f.hs,f.v,f.c,h1⟩ f.g
 other:=λS s t g L h=>by
  have f:=vL g L.m;rcases f.o with z | z
  .exact cJ z h
  .exact z
 rep:=λS0 h0 SS aA aC aB S av ay g C l hh=>XS g C l hh
theorem pl:PL F R cc:=Ze (KY (C:=Cc) (.inl ⟨rfl,rfl,rfl⟩) (.inr ⟨rfl,rfl,rfl⟩))
end
end
def A7(a:H)(sp aG i:Nat):Prop:=i≠sp/\i≠aG/\(i<a.length\/a.length+5<=i)
def yu(a:H)(i:Nat):Prop:=i<a.length\/a.length+5<=i
theorem A7.bF(h:A7 a sp aG i):yu a i:=h.2.2
section
variable{a c t:H}{X:uG}{P P':Ps}{i k q sp aG:Nat}{o:O}
theorem qi(h:yu a i)(g:(st a X P c)[i]? =J o):(st a X P' (c++t))[i]? =J o:=by
 ext a c t X P P' i o;rcases h with h | h
 .rw[sM h] at g ⊢;exact g
 .rw[show i=a.length+5+(i - (a.length+5)) by lia,rD] at g ⊢;exact(ae (f0 g)).trans g
theorem H6:(st a X P c).set (a.length+5+k) o=st a X P (c.set k o):=by
 ext a c X P k o;unfold st;rw[eA _ _ (by lia),eA _ _ (by show 5<=_;lia)];congr 3;show a.length+5+k - a.length - 5=k;lia
end
def xm(ok:Nat->Prop)(h:H)(q:Nat)(S:qv):Prop:=∃cq,ok q/\ok cq/\h[q]? =J (.tup [.ref cq,nv S.2.1,nv S.2.2])/\h[cq]? =J (.list (S.1.map nv))
def CO(ok:Nat->Prop)(h:H):List V->List qv->Prop
 | [],[]=>True
 | v::vs,s::ss=>(∃q,v= .ref q/\xm ok h q s)/\CO ok h vs ss
 | _,_=>False
theorem xm.at{h:H}{q:Nat}{S:qv}(A:xm ok h q S):El h q S:=by
 obtain⟨cq,_,_,h1,h2⟩:=A;exact⟨cq,h1,h2⟩
theorem CO.at:∀{vs:List V} {ss:List qv},CO ok h vs ss->wH h vs ss
 | [],[],_=>trivial
 | [],_::_,q=>q.elim
 | _::_,[],q=>q.elim
 | _::_,_::_,q=>by
  obtain⟨⟨x,h1,h2⟩,q2⟩:=q;exact⟨⟨x,h1,h2.at⟩,q2.at⟩
theorem xm.mono{h h':H}(k:∀i o,ok i->h[i]? =J o->h'[i]? =J o){q:Nat}{S:qv}(A:xm ok h q S):xm ok h' q S:=by
 obtain⟨cq,a1,a2,h1,h2⟩:=A;exact⟨cq,a1,a2,k _ _ a1 h1,k _ _ a2 h2⟩
theorem CO.mono(k:∀i o,ok i->h[i]? =J o->h'[i]? =J o):∀{vs:List V} {ss:List qv},CO ok h vs ss->CO ok h' vs ss
 | [],[],_=>trivial
 | [],_::_,q=>q.elim
 | _::_,[],q=>q.elim
 | _::_,_::_,q=>by
  obtain⟨⟨x,h1,h2⟩,q2⟩:=q;exact⟨⟨x,h1,h2.mono k⟩,q2.mono k⟩
theorem CO.snoc{h:H}{q:Nat}{S:qv}(A:xm ok h q S):∀{vs:List V} {ss:List qv},CO ok h vs ss->CO ok h (vs++[.ref q]) (ss++[S])
 | [],[],_=>⟨⟨q,rfl,A⟩,trivial⟩
 | [],_::_,q=>q.elim
 | _::_,[],q=>q.elim
 | _::_,_::_,q=>⟨q.1,q.2.snoc A⟩
theorem wH.drop:∀{n:Nat} {vs:List V} {ss:List qv},wH h vs ss->wH h (vs.drop n) (ss.drop n)
 | 0,_,_,q=>q
 | _+1,[],[],_=>trivial
 | _+1,[],_::_,q=>q.elim
 | _+1,_::_,[],q=>q.elim
 | n+1,_::_,_::_,q=>q.2.drop (n:=n)
theorem IH{q:Nat}{S:qv}(A:El h q S):∀{vs:List V} {ss:List qv},wH h vs ss->Aa h (.ref q) vs=J (cu (S∈ss))
 | [],[],_=>rfl
 | [],_::_,q=>q.elim
 | _::_,[],q=>q.elim
 | v::vs,s::ss,r=>by
  obtain⟨⟨x,rfl,h2⟩,r2⟩:=r;rw[Aa,Jf (k:=1) h2 A,IH A r2];show J _=J _;congr 1;rw[de];simp only[cW,cA,dS,eq_comm (a:=s) (b:=S)]
inductive qC (F R:Nat) (ok:Nat->Prop) (h:H) (S0:qv) (h0:Nat):List qv->Nat->Nat->List V->Prop
 | base:qC F R ok h S0 h0 [S0] h0 1 []
 | step {SS:List qv} {aA av:Nat} {ay:List V} {S:qv} {s t pr q:Nat} (C:qC F R ok h S0 h0 SS aA av ay) (l:SS.getLast? =J S) (L:H5 F R S s t) (hp:pr<4) (hq:ok q) (g:h[q]? =J (KD (pM (F*R) S aA av ay) (y7 F R S.1 s t pr))):
  qC F R ok h S0 h0 (SS++[rG F R S s t pr]) (sJ S.1 s t aA) (if S.2.1=1 then av+1 else av) (ay++[.ref q])
section
variable{h0:Nat}{ok:Nat->Prop}{h h':H}{S0 S:qv}{SS:List qv}{aA av:Nat}{ay:List V}
theorem qC.mono(k:∀i o,ok i->h[i]? =J o->h'[i]? =J o)(A:qC F R ok h S0 h0 SS aA av ay):qC F R ok h' S0 h0 SS aA av ay:=by
 induction A with
 | base=>exact .base
 | step C l L hp hq g ih=>exact .step ih l L hp hq (k _ _ hq g)
theorem qC.len(A:qC F R ok h S0 h0 SS aA av ay):ay.length+1=SS.length:=by
 induction A with
 | base=>rfl
 | step C l L hp hq g ih=>
  rw[a6,a6];show _+1+1=_+1;lia
theorem qC.bT(A:qC F R ok h S0 h0 SS aA av ay):1<=av:=by
 induction A with
 | base=>exact da _
 | step C l L hp hq g ih=>split<;>lia
theorem qC.gp(g0:Gp F R S0.1 S0.2.1 S0.2.2)(A:qC F R ok h S0 h0 SS aA av ay):∀S,SS.getLast? =J S->Gp F R S.1 S.2.1 S.2.2:=by
 induction A with
 | base=>intro S h;cases h;exact g0
 | step C l L hp hq g ih=>
  intro S' e;rw[hI] at e;cases e;exact pl.step _ _ _ _ (ih _ l) L hp
theorem LC:∀{SS:List qv},SS.getLast? =J S->SS=SS.dropLast++[S]:=λ{SS} h=>by
 obtain⟨ys,e⟩:=List.getLast?_eq_some_iff.mp h;rw[e,iZ]
theorem qC.hk(A:qC F R ok h S0 h0 SS aA av ay)(hP:P.ay=ay)(hl:SS.length<=100):HK h P (SS.dropLast.map (yR (F*R))):=by
 ext h0 ok h S0 SS aA av ay P;have ln:=A.len;refine⟨by rw[bj,hJ,hP];lia,by rw[bj,hJ];lia,λi k e=>?_⟩;ext i k;rw[hP];clear hl hP ln
 induction A with
 | base=>cases e
 | step C l L hp hq g ih=>
  rename_i SS aA av ay S s t pr q;have ln:=C.len;rw[iZ] at e;have sp:=LC l;have cl:(SS.dropLast).length+1=SS.length:=by rw[hJ];lia
  by_cases hi:i<SS.dropLast.length
  .have e':(SS.dropLast.map (yR (F*R)))[i]? =J k:=by
    rw[sp,dR,ae (by rw[bj];exact hi)] at e;exact e
   obtain⟨q',b1,b2,b3,b4,b5,h1,h2⟩:=ih e';exact⟨q',b1,b2,b3,b4,b5,(ae (f0 h1)).trans h1,h2⟩
  .have e2:i=ay.length:=by
    have:=f0 e;rw[bj] at this;lia
   subst e2;have ek:k=yR (F*R) S:=by
    rw[sp,dR,cT (by rw[bj];lia)] at e;rw[bj,show ay.length - SS.dropLast.length=0 by lia] at e;cases e;rfl
   rw[ek];have g':h[q]? =J (.tup [nv (y7 F R S.1 s t pr),nv (S.1.getD (qG (y7 F R S.1 s t pr)) 0),nv S.2.2,.int (-1),nv aA,nv (yR (F*R) S)]):=g;exact⟨q,_,_,_,_,_,by rw[cT (da _),eE];rfl,g'⟩
end
structure LF (F R:Nat) (S0:qv) (h0:Nat) (bh a h:H) (sp aG:Nat) (SS:List qv) (aA av:Nat) (ay:List V) (W0 W1:Option (Nat × Nat)):Prop where
 sp5:a.length+5<=sp
 stp5:a.length+5<=aG
 ne:sp≠aG
 sts:∃vs,h[sp]? =J (.list vs)/\CO (A7 a sp aG) h vs SS
 steps:∃w0 w1,h[aG]? =J (.list [.ref w0,.ref w1])/\(A7 a sp aG w0/\h[w0]? =J (AZ W0))/\(A7 a sp aG w1/\h[w1]? =J (AZ W1))
 wr0:∀m,W0=J m->m.1<F*R
 wr1:∀m,W1=J m->m.1<F*R
 trail:qC F R (A7 a sp aG) h S0 h0 SS aA av ay
 fr:∀(i:Nat) (o:O),A7 a sp aG i->bh[i]? =J o->h[i]? =J o
theorem LF.frame{S0:qv}{bh a h h':H}{sp aG:Nat}{SS:List qv}{aA av:Nat}{ay:List V}{W0 W1:Option (Nat × Nat)}(A:LF F R S0 h0 bh a h sp aG SS aA av ay W0 W1)(k:∀i o,yu a i->h[i]? =J o->h'[i]? =J o):LF F R S0 h0 bh a h' sp aG SS aA av ay W0 W1:=by
 revert sp aG SS aA av ay W0 W1;ext h0 S0 bh a h h';ext sp aG SS aA av ay W0 W1;have k':∀i o,A7 a sp aG i->h[i]? =J o->h'[i]? =J o:=λi o hi g=>k i o hi.bF g;obtain⟨vs,h1,h2⟩:=A.sts;obtain⟨w0,w1,g1,⟨g2,g3⟩,g4,g5⟩:=A.steps;exact⟨A.sp5,A.stp5,A.ne,⟨vs,k _ _ (.inr A.sp5) h1,h2.mono k'⟩,⟨w0,w1,k _ _ (.inr A.stp5) g1,⟨g2,k' _ _ g2 g3⟩,g4,k' _ _ g4 g5⟩,A.wr0,A.wr1,A.trail.mono k',λi o hi g=>k' i o hi (A.fr i o hi g)⟩
theorem LF.move{S0:qv}{bh a:H}{X:uG}{P P':Ps}{c:H}{sp aG:Nat}{SS:List qv}{aA av:Nat}{ay:List V}{W0 W1:Option (Nat × Nat)}(A:LF F R S0 h0 bh a (st a X P c) sp aG SS aA av ay W0 W1)(t:H):LF F R S0 h0 bh a (st a X P' (c++t)) sp aG SS aA av ay W0 W1:=
 A.frame λw w hi g=>qi hi g
theorem Iz{S:qv}{aA av:Nat}{ay:List V}(hl:S.1.length=F*R)(hs:S.2.1<2)(sz:F*R<=21):Xx (dL F R cc) (pM (F*R) S aA av ay):=by
 ext S aA av ay;have ln:=CY (G:=dL F R cc) (n:=F*R) (c:=S.1) (au:=S.2.1) (az:=S.2.2) (aA:=aA) (av:=av) (kx:=sR (F*R) S.2.1 S.2.2) (ay:=ay) hl rfl;have p64:2 ^ (F*R)<2 ^ 64:=fO ⋯ (by lia);have sS:∀i,(pM (F*R) S aA av ay).sd i<2 ^ (F*R):=λi=>by
  by_cases h:i<2
  .exact(EC (n:=F*R) (c:=S.1) (au:=S.2.1) (az:=S.2.2) (aA:=aA) (av:=av) (kx:=sR (F*R) S.2.1 S.2.2) (ay:=ay) h)▸vw _ _
  .have:(pM (F*R) S aA av ay).sd i=0:=vZ h;rw[this];exact gj _
 have kS:∀i,(pM (F*R) S aA av ay).kd i<2 ^ (F*R):=λi=>by
  by_cases h:i<7
  .exact(LD (n:=F*R) (c:=S.1) (au:=S.2.1) (az:=S.2.2) (aA:=aA) (av:=av) (kx:=sR (F*R) S.2.1 S.2.2) (ay:=ay) h)▸vw _ _
  .have:(pM (F*R) S aA av ay).kd i=0:=vZ h;rw[this];exact gj _
 exact⟨ln.bl,ln.kl,ln.sl,hs,λi=>cX (sS i) p64,sS,λi=>cX (kS i) p64⟩
def EL(sa np F R au az aA:Nat)(cq pp sp aC:Nat)(aB:Bool)(aG:Nat)(x13 bQ bP bO bN bD bx bw bu bq:Option V):nw:=
 [J (.con sa),J (.ref np),J (nv F),J (nv R),J (nv au),J (nv az),J (nv aA),J (.ref cq),J (.ref pp),J (.ref sp),J (nv aC),J (.bool aB),J (.ref aG),x13,bQ,bP,bO,bN,bD,bx,bw,bu,bq,U,U,U,U,U,U,U,U,U,U,U,U,U,U]
def Kt:Ss:=match rI 13 GP.body with
 | .cons (.each _ _ b) _=>b
 | _=>.nil
theorem RZ{S:qv}{o8:Int}{m:Nat × Nat}(h:w8 F R S.1 S.2.1 o8=J m):H5 F R S m.1 m.2:=by
 ext S o8 m;unfold w8 at h;obtain⟨k,hk,h⟩:=List.exists_of_findSome?_eq_some h;have hk:=cO.mp hk;unfold DA at h;split at h
 .rename_i f;cases h;have il:=P6 (o8:=o8) (k:=k) (ar (dH _) hk);refine⟨?_,f⟩;rw[ba,a7 il];exact du il
 .cases h
theorem S6{S:qv}{W:Option (Nat × Nat)}(hl:S.1.length=F*R)(hw:∀m,W=J m->m.1<F*R)(h:B5 F R S.1 S.2.1 W=b9):∃m,W=J m/\H5 F R S m.1 m.2:=by
 ext S W;cases W with
 | none=>cases h
 | some m=>
  dsimp only[B5] at h;simp only[ax,cA] at h;obtain⟨h1,h2,h3,h4⟩:=h;exact⟨m,rfl,rE.mpr ⟨by rw[hl];exact hw m rfl,h1,h2,h3⟩,h4⟩
def aab:Ss:=rI 4 Kt
def Sy:Ss:=rI 12 Kt
section
variable{d:Nat}{Q:QS}{sa np cq pp sp aG aC aA av s t wp:Nat}{aB:Bool}{m:Int}{S:qv}{a c:H}{X:uG}{P:Ps}
theorem Vd{K:pN}(A:db K ea e (st a X P c) (.ref p) (st a X P c))(g:(st a X P c)[p]? =J (.list xs))(hl:xs.length<=1000):db K (.slice ea .bK .bK) e (st a X P c) (.ref (a.length+5+c.length)) (st a X P (c++[.list xs])):=by
 have z:=R0 A g hl;rw[rL,vc] at z;exact z
def Az(m:Int):Nat:=(fg (fH m (3:Nat)) (4:Nat)).toNat
theorem Yz(m:Int):Az m<4:=sI _ ⋯
theorem YL{K:pN}(l:e[13]? =J (J (.int m))):db K (.bin .mod (.bin .div (.loc 13) (.int 3)) (.int 4)) e h (nv (Az m)) h:=sE (yI (r_loc l) (ac (n:=3)) ⋯ ⋯) (ac (n:=4)) ⋯
theorem Xq {bD bx bw bu bq:Option V}{hf:Nat}(hl:S.1.length=F*R)(hv:∀i,S.1.getD i 0<16)(hF:3<=F/\F<=7)(hR:1<=R)(sz:F*R<=21)(hs:s<F*R)(ht:t<F*R)(hne:s≠t)(own:S.1.getD s 0/8=S.2.1)(Lc:(st a X P c)[cq]? =J (.list (S.1.map nv)))(oc:yu a cq)(go:∀aq c',a.length+5+c.length<=aq->(∃t,c'=c++t)->(st a X P c')[aq]? =J (.list ((li F R S.1 s t (Az m)).map nv))->
   oI (K0 d) Sy (EL sa np F R S.2.1 S.2.2 hf cq pp sp aC aB aG (J (.int m)) (J (.ref wp)) (J (nv s)) (J (nv t)) (J (nv (y7 F R S.1 s t (Az m)))) (J (.ref aq)) bx bw bu bq) (st a X P c') Q):
  oI (K0 d) (rI 8 Kt) (EL sa np F R S.2.1 S.2.2 hf cq pp sp aC aB aG (J (.int m)) (J (.ref wp)) (J (nv s)) (J (nv t)) (J (nv (Oz s t))) bD bx bw bu bq) (st a X P c) Q:=by
 revert t wp aB m S a c X P bD bx bw bu bq hf;ext d Q sa np cq pp sp aG aC s;ext t wp aB m S a c X P bD bx bw bu bq hf;have cl:∀{P:Ps} {c':H},(∃t,c'=c++t)->(st a X P c')[cq]? =J (.list (S.1.map nv)):=λ⟨t,e⟩=>by rw[e];exact qi oc Lc
 have ll:S.1.length<1000:=by lia
 have aqo:yu a (a.length+5+c.length):=.inr (di _ _);refine bs (Vd ∅ Lc (by rw[bj];lia)) ?_;have ga:∀{l:List Nat} {t:H},(st a X P (c++[.list (l.map nv)]++t))[a.length+5+c.length]? =J (.list (l.map nv)):=λ{l t}=>by
  rw[rD,aa,cT (da _),eE];rfl
 have ga0:∀{l:List Nat},(st a X P (c++[.list (l.map nv)]))[a.length+5+c.length]? =J (.list (l.map nv)):=λ{l}=>by
  have:=ga (l:=l) (t:=[]);rw[cP] at this;exact this
 have is:∀{l:List Nat} {i x:Nat} {t:H},i<l.length->l.length<1000->pZ (.ref (a.length+5+c.length)) (nv i) (nv x) (st a X P (c++[.list (l.map nv)]++t))=J (st a X P (c++[.list ((l.set i x).map nv)]++t)):=λ{l i x t} h1 h2=>by
  rw[DX ga h1 h2,H6,aa,eA _ _ (da _),eE,aa];rfl
 have is0:∀{l:List Nat} {i x:Nat},i<l.length->l.length<1000->pZ (.ref (a.length+5+c.length)) (nv i) (nv x) (st a X P (c++[.list (l.map nv)]))=J (st a X P (c++[.list ((l.set i x).map nv)])):=λ{l i x} h1 h2=>by
  have:=is (l:=l) (i:=i) (x:=x) (t:=[]) h1 h2;rw[cP,cP] at this;exact this
 have cell:∀{e:nw} {c':H} {j i:Nat},(∃t,c'=c++t)->e[7]? =J (J (.ref cq))->e[j]? =J (J (nv i))->i<F*R->db (K0 d) (.sub (.loc 7) (.loc j)) e (st a X P c') (nv (S.1.getD i 0)) (st a X P c'):=λhc l7 lj hi=>tT (cl hc) (r_loc l7) (r_loc lj) (by rw[hl];exact hi) ll;refine uB (cell ⟨_,rfl⟩ rfl rfl hs) ∅ ∅ (is0 (by rw[hl];exact ht) ll) ?_;refine uB (v:=nv 0) ac ∅ ∅ (is0 (by rw[cR,hl];exact hs) (by rw[cR];exact ll)) ?_;have al:((S.1.set t (S.1.getD s 0)).set s 0).length=F*R:=by rw[cR,cR];exact hl
 have F0:0<F:=by lia
 have kd:∀{e:nw} {c':H},(∃t,c'=c++t)->e[7]? =J (J (.ref cq))->e[15]? =J (J (nv s))->db (K0 d) (.cmp (.bin .mod (.sub (.loc 7) (.loc 15)) (.int 8)) .eq (.int 1)) e (st a X P c') (.bool (cu (S.1.getD s 0%8=1))) (st a X P c'):=λhc l7 l15=>oQ (wF (cell hc l7 l15 hs) (ac (n:=8)) ⋯) ac;have sd2:S.2.1<2:=by have:=hv s;lia
 by_cases h1:S.1.getD s 0%8=1
 .have tp:∀{e:nw},e[3]? =J (J (nv R))->e[16]? =J (J (nv t))->e[2]? =J (J (nv F))->db (K0 d) (.cmp (.bin .div (.loc 16) (.loc 2)) .isin (.tup (.cons (.int 0) (.cons (.bin .sub (.loc 3) (.int 1)) .nil)))) e (st a X P (c++[.list (((S.1.set t (S.1.getD s 0)).set s 0).map nv)])) (.bool (cu (t/F∈[0,R - 1]))) (st a X P (c++[.list (((S.1.set t (S.1.getD s 0)).set s 0).map nv)]++[.tup ([0,R - 1].map nv)])):=λl3 l16 l2=>
   pF (sX (r_loc l16) (r_loc l2) F0 (by lia)) (wz (xs:=[0,R - 1].map nv) (be (ac (n:=0)) (be (oM (r_loc l3) (ac (n:=1)) hR) f8)) (by show(2:Nat)<=1000;decide)) (by
    show(pQ _ _ _).bind _=_;have g:(st a X P (c++[.list (((S.1.set t (S.1.getD s 0)).set s 0).map nv)]++[.tup ([0,R - 1].map nv)]))[a.length+5+(c++[O.list (((S.1.set t (S.1.getD s 0)).set s 0).map nv)]).length]? =J (.tup ([0,R - 1].map nv)):=by rw[rD];exact bn
    rw[ud g];exact uu)
  have pi:pV F R S.1 s t↔t/F∈[0,R - 1]:=by
   unfold pV;simp only[dS,fW,or_false];exact⟨λz=>z.2,λz=>⟨h1,z⟩⟩
  by_cases h2:t/F∈[0,R - 1]
  .have hp:=pi.mpr h2;have tp2:=λ{e:nw} a b c=>tp (e:=e) a b c;simp only[cC h2] at tp2;refine lv (x:=.bool b9) (t:=b9) (ru (t:=b9) (x:=.bool b9) (by have:=kd (e:=(EL sa np F R S.2.1 S.2.2 hf cq pp sp aC aB aG (J (.int m)) (J (.ref wp)) (J (nv s)) (J (nv t)) (J (nv (Oz s t))) bD bx bw bu bq).set 18 (J (.ref (a.length+5+c.length)))) (c':=c++[.list (((S.1.set t (S.1.getD s 0)).set s 0).map nv)]) ⟨_,rfl⟩ rfl rfl;rw[cC h1] at this;exact this) rfl (λw=>tp2 rfl rfl rfl) λe=>by cases e) rfl (λw=>?_) λe=>by cases e
   refine uB (v:=nv (S.2.1*8+2+Az m)) (qK (qK (sr ∅ (ac (n:=8)) (cX sd2 ⋯) ⋯) (ac (n:=2))) (YL rfl)) ∅ ∅ (is (by rw[al];exact ht) (by rw[al];lia)) ?_;refine oN rfl (v:=nv (Yd s t (Az m))) (qJ (qu (ac (n:=1)) (ac (n:=14)) ⋯ ⋯) (qu (YL rfl) (ac (n:=12)) (cX (Yz m) ⋯) ⋯)) r9 (ld ?_);have e1:y7 F R S.1 s t (Az m)=Yd s t (Az m):=cG hp;have e2:li F R S.1 s t (Az m)=((S.1.set t (S.1.getD s 0)).set s 0).set t (S.2.1*8+2+Az m):=by
    unfold li;rw[cG hp,own];rfl
   rw[<- e1];exact go _ _ (da _) ⟨_,aa _ _ _⟩ (by rw[e2];exact ga)
  .have hp:¬pV F R S.1 s t:=λz=>h2 (pi.mp z);have tp2:=λ{e:nw} a b c=>tp (e:=e) a b c;simp only[cD h2] at tp2;refine lv (x:=.bool cj) (t:=cj) (ru (t:=b9) (x:=.bool b9) (by have:=kd (e:=(EL sa np F R S.2.1 S.2.2 hf cq pp sp aC aB aG (J (.int m)) (J (.ref wp)) (J (nv s)) (J (nv t)) (J (nv (Oz s t))) bD bx bw bu bq).set 18 (J (.ref (a.length+5+c.length)))) (c':=c++[.list (((S.1.set t (S.1.getD s 0)).set s 0).map nv)]) ⟨_,rfl⟩ rfl rfl;rw[cC h1] at this;exact this) rfl (λw=>tp2 rfl rfl rfl) λe=>by cases e) rfl (λe=>by cases e) λw=>?_;have e1:y7 F R S.1 s t (Az m)=Oz s t:=cH hp;have e2:li F R S.1 s t (Az m)=(S.1.set t (S.1.getD s 0)).set s 0:=cH hp;rw[<- e1];exact go _ _ (da _) ⟨_,aa _ _ _⟩ (by rw[e2];exact ga)
 .have hp:¬pV F R S.1 s t:=λz=>h1 z.1;refine lv (x:=.bool cj) (t:=cj) (ru (t:=cj) (x:=.bool cj) (by have:=kd (e:=(EL sa np F R S.2.1 S.2.2 hf cq pp sp aC aB aG (J (.int m)) (J (.ref wp)) (J (nv s)) (J (nv t)) (J (nv (Oz s t))) bD bx bw bu bq).set 18 (J (.ref (a.length+5+c.length)))) (c':=c++[.list (((S.1.set t (S.1.getD s 0)).set s 0).map nv)]) ⟨_,rfl⟩ rfl rfl;rw[cD h1] at this;exact this) rfl (λe=>by cases e) λw=>⟨rfl,rfl⟩) rfl (λe=>by cases e) λw=>?_;have e1:y7 F R S.1 s t (Az m)=Oz s t:=cH hp;have e2:li F R S.1 s t (Az m)=(S.1.set t (S.1.getD s 0)).set s 0:=cH hp;rw[<- e1];exact go _ _ (da _) ⟨_,rfl⟩ (by rw[e2];exact ga0)
theorem Ww(hl:S.1.length=F*R)(sz:F*R<=21)(hs:s<F*R)(ht:t<F*R)(Lc:(st a X P c)[cq]? =J (.list (S.1.map nv)))(W:(st a X P c)[wp]? =J (AZ (J (s,t))))(go:oI (K0 d) (rI 8 Kt) (EL sa np F R S.2.1 S.2.2 (sJ S.1 s t aA) cq pp sp aC aB aG (J (.int m)) (J (.ref wp)) (J (nv s)) (J (nv t)) (J (nv (Oz s t))) bD bx bw bu bq) (st a X P c) Q):
  oI (K0 d) aab (EL sa np F R S.2.1 S.2.2 aA cq pp sp aC aB aG (J (.int m)) (J (.ref wp)) bP bO bN bD bx bw bu bq) (st a X P c) Q:=by
 revert t wp aB m S a c X P bP bO bN bD bx bw bu bq;ext d Q sa np cq pp sp aG aC aA s;revert bP bO bN bD bx bw bu bq;ext t wp aB m S a c X P;ext bP bO bN bD bx bw bu bq;have ll:S.1.length<1000:=by lia
 have cell:∀{e:nw} {j i:Nat},e[7]? =J (J (.ref cq))->e[j]? =J (J (nv i))->i<F*R->db (K0 d) (.sub (.loc 7) (.loc j)) e (st a X P c) (nv (S.1.getD i 0)) (st a X P c):=λl7 lj hi=>tT Lc (r_loc l7) (r_loc lj) (by rw[hl];exact hi) ll;refine Ax (vs:=[nv s,nv t]) ∅ W rfl (bs (v:=nv (Oz s t)) (qJ ∅ (qu ∅ (ac (n:=6)) (by lia) ⋯)) (oN rfl (ac (n:=1)) B3 ?_));by_cases h0:S.1.getD t 0=0
 .refine lv (x:=.bool (cu (S.1.getD s 0%8=1))) (t:=cu (S.1.getD s 0%8=1)) (EG (t:=cj) (cell rfl rfl ht) (by rw[oH,h0];rfl) (λw=>oQ (wF (cell rfl rfl hs) (ac (n:=8)) ⋯) (ac (n:=1))) λe=>by cases e) bm (λe1=>?_) λe1=>?_
  .have hh:sJ S.1 s t aA=0:=cH λz=>z.2 (cy e1);rw[hh] at go;exact bs ac (ld go)
  .have hh:sJ S.1 s t aA=aA+1:=cG ⟨h0,cz e1⟩;rw[hh] at go;exact go
 .have hh:sJ S.1 s t aA=0:=cH λz=>h0 z.1;rw[hh] at go;exact lv (t:=b9) (EG (t:=b9) (cell rfl rfl ht) (by rw[oH];exact cI J (cC h0)) (λe=>by cases e) λw=>⟨rfl,rfl⟩) (by rw[oH];exact cI J (cC h0)) (λw=>bs ac (ld go)) λe=>by cases e
end
inductive LI (F R:Nat) (S0:qv) (h0:Nat) (bh:H) (sa np:Nat) (a:H) (X:uG) (sp aG n:Nat):nw->H->Prop
 | mk (SS:List qv) (aA av:Nat) (ay:List V) (aC:Nat) (aB:Bool) (S:qv) (W0 W1:Option (Nat × Nat)) (c:H) (sd rt cq:Nat) (x13 bQ bP bO bN bD bx bw bu bq:Option V) (lf:LF F R S0 h0 bh a (st a X (pM (F*R) S aA av ay) c) sp aG SS aA av ay W0 W1) (lst:SS.getLast? =J S) (ch:uZ F R S0 h0 SS aA aC aB) (hn:SS.length<=n+1):LI F R S0 h0 bh sa np a X sp aG n (EL sa np F R sd rt aA cq a.length sp aC aB aG x13 bQ bP bO bN bD bx bw bu bq) (st a X (pM (F*R) S aA av ay) c)
theorem LI.of{h0 sa np sp aG n aA av aC sd rt cq:Nat}{S0 S:qv}{bh a c h:H}{X:uG}{SS:List qv}{ay:List V}{aB:Bool}{W0 W1:Option (Nat × Nat)}(e:h=st a X (pM (F*R) S aA av ay) c)(lf:LF F R S0 h0 bh a h sp aG SS aA av ay W0 W1)(lst:SS.getLast? =J S)(ch:uZ F R S0 h0 SS aA aC aB)(hn:SS.length<=n+1):LI F R S0 h0 bh sa np a X sp aG n (EL sa np F R sd rt aA cq a.length sp aC aB aG x13 bQ bP bO bN bD bx bw bu bq) h:=by
 subst e;exact .mk SS aA av ay aC aB S W0 W1 c sd rt cq x13 bQ bP bO bN bD bx bw bu bq lf lst ch hn
theorem Z9{h3:H}(h1:i≠sp)(h2:i≠aG)(g:h3[i]? =J o):(((h3.set sp o1)++[o2]).set aG o3)[i]? =J o:=by
 rw[eN (dT h2),ae (by rw[cR];exact f0 g),eN (dT h1),g]
theorem Y4(g:T[p]? =J (.list xs))(hi:i<xs.length)(hm:xs.length<1000):pZ (.ref p) (nv i) v T=J (T.set p (.list (xs.set i v))):=DQ g hi hm
theorem Gp.rt0(g:Gp F R cs au az):az=0\/F=7/\R=3:=by
 by_cases h:az=0
 .exact .inl h
 right;have:∃i,i<4/\az >>> i &&& 1≠0:=by
  have r16:=g.r16;have all:∀r,r<16->r≠0->∃i,i<4/\r >>> i &&& 1≠0:=by decide
  exact all az r16 h
 obtain⟨i,hi,hb⟩:=this;have z:=g.rt i hi hb;unfold wV at z;simp only[ax,cA] at z;exact⟨z.1,z.2.1⟩
theorem wU{S:qv}{SS:List qv}(h:SS.getLast? =J S):SS[SS.length - 1]? =J S:=by rw[<- fG];exact h
theorem Gp.kingIn(g:Gp F R cs au az):au*8+6∈cs:=by
 obtain⟨k,k1,k2⟩:=g.cg.king g.sd;exact(xa g.cg.cl.l k1 k2).1
section
variable{d:Nat}{Q:QS}{sa np cq sp aG aC aA av s t h0 aq n:Nat}{aB:Bool}{m:Int}{S S0:qv}{SS:List qv}{ay:List V}{W0 W1:Option (Nat × Nat)}{bh a c:H}{X:uG}
theorem yt{ok:Nat->Prop}{vs:List V}(A:PA a X)(hX:X.G=dL F R cc)(g0:Gp F R S0.1 S0.2.1 S0.2.2)(tr:qC F R ok (st a X (pM (F*R) S aA av ay) c) S0 h0 SS aA av ay)(h1:(st a X (pM (F*R) S aA av ay) c)[sp]? =J (.list vs))(h2:wH (st a X (pM (F*R) S aA av ay) c) vs SS)(lst:SS.getLast? =J S)(ch:uZ F R S0 h0 SS aA aC aB)(hl:SS.length<100):
  ii (K0 (d+14)) 905 [.ref a.length,nv F,nv R,.ref sp,.bool aB,nv aA,.int m] (st a X (pM (F*R) S aA av ay) c) (.bool b9) (st a X (pM (F*R) S aA av ay) c):=by
 revert h0 aB m S S0 SS ay a c X ok vs;ext d sp aC aA av;ext h0 aB m S S0 SS ay a c X ok vs;have g:=tr.gp g0 S lst;have hl0:0<SS.length:=by cases SS with | nil=>cases lst | cons=>exact fJ _
 have rp:=pl.rep S0 h0 SS aA aC aB S av ay g0 ch lst tr.len;have hk:=tr.hk (P:=pM (F*R) S aA av ay) rfl (by lia);have gd:=pl.gd S aA av ay g;have pk:=Iz (aA:=aA) (av:=av) (ay:=ay) g.cg.cl.l g.sd g.cg.cl.bd.sz;rw[<- hX] at gd pk;have agr:Xj X.G (pM (F*R) S aA av ay) (SS.dropLast.map (yR (F*R))) (w6 SS) (tL F R S.1 (S.1.idxOf (S.2.1*8+6)) S.2.1) (w8 F R S.1 S.2.1 0).isNone (vC F S.1) aB:=by
  rw[hX];exact⟨pl.chk S aA av ay g,pl.has S aA av ay g,rp.1,rp.2,pl.aE S aA av ay g⟩
 exact Hi (cp:=0) (A.at pk) hk gd g.cg.cl g.cg.pw (pl.bV S g) g.kingIn g.sd h1 h2 hl0 hl (wU lst) agr
theorem O4(A:PA a X)(hX:X.G=dL F R cc)(g0:Gp F R S0.1 S0.2.1 S0.2.2)(lf:LF F R S0 h0 bh a (st a X (pM (F*R) S aA av ay) c) sp aG SS aA av ay W0 W1)(lst:SS.getLast? =J S)(ch:uZ F R S0 h0 SS aA aC aB)(hl:SS.length<100):
  ii (K0 (d+14)) 905 [.ref a.length,nv F,nv R,.ref sp,.bool aB,nv aA,.int m] (st a X (pM (F*R) S aA av ay) c) (.bool b9) (st a X (pM (F*R) S aA av ay) c):=by
 obtain⟨vs,h1,h2⟩:=lf.sts;exact yt A hX g0 lf.trail h1 h2.at lst ch hl
theorem U9{bQ bx bw bu bq:Option V}(A:PA a X)(hX:X.G=dL F R cc)(g0:Gp F R S0.1 S0.2.1 S0.2.2)(L:H5 F R S s t)(lf:LF F R S0 h0 bh a (st a X (pM (F*R) S aA av ay) c) sp aG SS aA av ay W0 W1)(lst:SS.getLast? =J S)(ch:uZ F R S0 h0 SS aA aC aB)(hn:SS.length<=n+1)(hn2:n<20)(aq5:A7 a sp aG aq)(La:(st a X (pM (F*R) S aA av ay) c)[aq]? =J (.list ((li F R S.1 s t (Az m)).map nv)))(go:∀e h,LI F R S0 h0 bh sa np a X sp aG (n+1) e h->Q .next e h):
  oI (K0 (d+14)) Sy (EL sa np F R S.2.1 S.2.2 (sJ S.1 s t aA) cq a.length sp aC aB aG (J (.int m)) bQ (J (nv s)) (J (nv t)) (J (nv (y7 F R S.1 s t (Az m)))) (J (.ref aq)) bx bw bu bq) (st a X (pM (F*R) S aA av ay) c) Q:=by
 revert aG aC aA av s t h0 aq n aB m S S0 SS ay W0 W1 bh a c X bQ bx bw bu bq;ext d Q sa np cq sp;revert SS ay W0 W1 bh a c X bQ bx bw bu bq;ext aG aC aA av s t h0 aq n aB m S S0;ext SS ay W0 W1 bh a c X bQ bx bw bu bq;have g:=lf.trail.gp g0 S lst;have ok:=yK pl g L;have g1:=pl.step S s t (Az m) g L (Yz m);have tl:=lf.trail.len;have aX:=g.sd;have M:=Wy (aA:=aA) (av:=av) (ay:=ay) pl g L (Yz m) (by lia);rw[<- hX] at M;have kd:=OT (d:=d+11) (c:=c) A M;have dp:=US (aA:=aA) (av:=av) (ay:=ay) (q:=a.length+5+(c++[Eu]).length) pl g L (Yz m);rw[<- hX] at dp;rw[dp] at kd;refine bc λkk=>?_;obtain⟨P0,hP0⟩:=(⟨_,rfl⟩:∃P0,P0=pM (F*R) S aA av ay)
 ext P0;obtain⟨q,hq⟩:=(⟨_,rfl⟩:∃q,q=a.length+5+(c++[Eu]).length)
 ext q;obtain⟨bT,hfull⟩:=(⟨_,rfl⟩:∃bT,bT=if S.2.1=1 then av+1 else av)
 obtain⟨S1,hS1⟩:=(⟨_,rfl⟩:∃S1,S1=rG F R S s t (Az m))
 obtain⟨P1,hP1⟩:=(⟨_,rfl⟩:∃P1,P1=pM (F*R) S1 (sJ S.1 s t aA) bT (ay++[.ref q]))
 obtain⟨c1,hc1⟩:=(⟨_,rfl⟩:∃c1,c1=c++([Eu]++[KD P0 (y7 F R S.1 s t (Az m))]))
 refine kk ?_;clear kk;rw[<- hS1] at g1;rw[<- hq,<-hfull,<-hS1,<-hP1,<-hP0,aa,<-hc1] at kd;rw[<- hP0] at lf La ⊢;refine oO (bi (lc rfl (lz rfl)) kd) ?_;have lf1:LF F R S0 h0 bh a (st a X P1 c1) sp aG SS aA av ay W0 W1:=by rw[hc1];exact lf.move _
 have La1:(st a X P1 c1)[aq]? =J (.list ((li F R S.1 s t (Az m)).map nv)):=by rw[hc1];exact qi aq5.bF La
 refine bc λkk=>?_;obtain⟨vs,v1,v2⟩:=lf.sts;obtain⟨w0,w1,s1,s2,s3⟩:=lf.steps;refine kk ?_;clear kk;have spl:=f0 v1;have stl:=f0 s1;rw[vc] at spl stl;have q_ok:A7 a sp aG q:=by
  rw[hq,a6];exact⟨by lia,by lia,.inr (by lia)⟩
 have gq:(st a X P1 c1)[q]? =J (KD (pM (F*R) S aA av ay) (y7 F R S.1 s t (Az m))):=by
  rw[hq,hc1,rD,<-aa,<-hP0];exact bn
 have tr1:=qC.step lf1.trail lst L (Yz m) q_ok gq;rw[<- hS1,<-hfull] at tr1;have ch1:=uZ.step ch lst L (Yz m);rw[<- hS1] at ch1;obtain⟨bz,hs1⟩:=(⟨_,rfl⟩:∃bz,bz=if vk S.1 s t then aC else SS.length)
 obtain⟨bH,ha1⟩:=(⟨_,rfl⟩:∃bH,bH=if vk S.1 s t then aB else cj)
 rw[<- hs1,<-ha1] at ch1;obtain⟨bS,hh1⟩:=(⟨_,rfl⟩:∃bS,bS=sJ S.1 s t aA)
 rw[<- hh1] at tr1 ch1 hP1 ⊢;have v1':(st a X P1 c1)[sp]? =J (.list vs):=by rw[hc1];exact qi (.inr lf.sp5) v1
 have vl:=v2.at.len;have len:∀{e:nw} {i:Nat},e[9]? =J (J (.ref sp))->db (K0 (d+14)) (.len i (.loc 9)) e (st a X P1 c1) (nv SS.length) (st a X P1 c1):=λ{e i} l=>by
  have z:=t5 (K:=K0 (d+14)) (i:=i) (a:=.loc 9) (e:=e) (r_loc l) (io v1') (by lia);rw[vl] at z;exact z
 suffices rest:oI (K0 (d+14)) (rI 14 Kt) (EL sa np F R S.2.1 S.2.2 bS cq a.length sp bz bH aG (J (.int m)) bQ (J (nv s)) (J (nv t)) (J (nv (y7 F R S.1 s t (Az m)))) (J (.ref aq)) bx bw bu bq) (st a X P1 c1) Q by
  refine lv (oQ ∅ ac) bm (λe1=>?_) λe1=>?_
  .have nq:¬vk S.1 s t:=λz=>by
    have:=cy e1;rw[hh1,sJ,cG z] at this;cases this
   rw[cH nq] at hs1 ha1;subst hs1 ha1;exact bs (len rfl) (bs o7 (ld rest))
  .have yq:vk S.1 s t:=cM λz=>(cz e1) (by rw[hh1,sJ,cH z]);rw[cG yq] at hs1 ha1;subst hs1 ha1;exact rest
 have kk:=L4 (d:=d+13) (T:=st a X P1 c1) (cp:=aq) (az:=S.2.2) (show CL F R (li F R S.1 s t (Az m)) by have:=g1.cg.cl;rw[hS1] at this;exact this) g.rt0 La1;have k2:sU F R (li F R S.1 s t (Az m)) S.2.2 4=S1.2.2:=by rw[hS1];rfl
 have k1:1 - S.2.1=S1.2.1:=by rw[hS1];rfl
 have k0:li F R S.1 s t (Az m)=S1.1:=by rw[hS1];rfl
 rw[k2] at kk;rw[k0] at La1;refine bs (v:=.ref (a.length+5+c1.length)) (h1:=st a X P1 (c1++[.tup [.ref aq,nv S1.2.1,nv S1.2.2]])) (by
  rw[<- k1];exact wz (lc rfl (be (oM (ac (n:=1)) ∅ (dk aX)) (be (bi (lc rfl (lc rfl (lc rfl (lz rfl)))) kk) f8))) (by show(3:Nat)<=1000;decide)) ?_
 obtain⟨c2,hc2⟩:=(⟨_,rfl⟩:∃c2,c2=c1++[O.tup [.ref aq,nv S1.2.1,nv S1.2.2]])
 obtain⟨qs,hqs⟩:=(⟨_,rfl⟩:∃qs,qs=a.length+5+c1.length)
 have c1l:c.length<=c1.length:=by rw[hc1,a6];lia
 have qs_ok:A7 a sp aG qs:=by rw[hqs];exact⟨by lia,by lia,.inr (by lia)⟩
 have lf2:LF F R S0 h0 bh a (st a X P1 c2) sp aG SS aA av ay W0 W1:=by rw[hc2];exact lf1.move _
 have La2:(st a X P1 c2)[aq]? =J (.list (S1.1.map nv)):=by rw[hc2];exact qi aq5.bF La1
 have g2:(st a X P1 c2)[qs]? =J (.tup [.ref aq,nv S1.2.1,nv S1.2.2]):=by rw[hqs,hc2,rD];exact bn
 have tr2:qC F R (A7 a sp aG) (st a X P1 c2) S0 h0 (SS++[S1]) bS bT (ay++[.ref q]):=by rw[hc2];exact tr1.mono λi o hi g=>qi hi.bF g
 rw[<- hc2,<-hqs];have sS:xm (A7 a sp aG) (st a X P1 c2) qs S1:=⟨aq,qs_ok,aq5,g2,La2⟩
 obtain⟨vs2,u1,u2⟩:=lf2.sts;have ul:=u2.at.len;obtain⟨again2,ha2⟩:=(⟨_,rfl⟩:∃again2,again2=(bH||decide (S1∈SS.drop bz)))
 have ag:∃t3,db (K0 (d+14)) (.or (.loc 11) (.cmp (.loc 19) .isin (.slice (.loc 9) (.loc 10) .bK))) (EL sa np F R S.2.1 S.2.2 bS cq a.length sp bz bH aG (J (.int m)) bQ (J (nv s)) (J (nv t)) (J (nv (y7 F R S.1 s t (Az m)))) (J (.ref aq)) (J (.ref qs)) bw bu bq) (st a X P1 c2) (.bool again2) (st a X P1 (c2++t3)):=by
  by_cases h:bH=b9
  .refine⟨[],?_⟩;rw[cP,ha2,h];exact EG (x:=.bool b9) (t:=b9) ∅ rfl (λe=>by cases e) λw=>⟨rfl,rfl⟩
  .have h:bH=cj:=by simpa using h
   refine⟨[.list (vs2.drop bz)],?_⟩;rw[ha2,h,fy];refine EG (x:=.bool cj) (t:=cj) ∅ rfl (λw=>pF ∅ (vW (v:=.ref (a.length+5+c2.length)) (r_loc (v:=.ref sp) rfl) (r_loc (v:=nv bz) rfl) yk ?_) ?_) λe=>by cases e
   .rw[tC (x:=.ref sp) u1 xM (show wY .none vs2.length=J vs2.length from rfl) (by lia),dW,vc,rL]
   .show(pQ _ _ _).bind _=_;rw[io (by rw[rD];exact bn),eT];exact IH ((sS.mono (h':=st a X P1 (c2++[.list (vs2.drop bz)])) λi o hi g=>qi hi.bF g).at) ((u2.mono (h':=st a X P1 (c2++[.list (vs2.drop bz)])) λi o hi g=>qi hi.bF g).at.drop)
 obtain⟨t3,ag⟩:=ag;refine bs ag ?_;rw[<- ha2] at ch1;obtain⟨c3,hc3⟩:=(⟨_,rfl⟩:∃c3,c3=c2++t3)
 rw[<- hc3];have lf3:LF F R S0 h0 bh a (st a X P1 c3) sp aG SS aA av ay W0 W1:=by rw[hc3];exact lf2.move _
 have tr3:qC F R (A7 a sp aG) (st a X P1 c3) S0 h0 (SS++[S1]) bS bT (ay++[.ref q]):=by rw[hc3];exact tr2.mono λi o hi g=>qi hi.bF g
 have sS3:xm (A7 a sp aG) (st a X P1 c3) qs S1:=by rw[hc3];exact sS.mono λi o hi g=>qi hi.bF g
 refine bc λkk=>?_;obtain⟨vs3,u1,u2⟩:=lf3.sts;obtain⟨w0,w1,s1,⟨s2,s3⟩,s4,s5⟩:=lf3.steps;have ul:=u2.at.len;obtain⟨k,hk⟩:∃k,sp=a.length+5+k:=⟨sp - (a.length+5),by have:=lf.sp5;lia⟩
 obtain⟨k',hk'⟩:∃k',aG=a.length+5+k':=⟨aG - (a.length+5),by have:=lf.stp5;lia⟩
 refine kk ?_;clear kk;have ap:=vp (K:=K0 (d+14)) (a:=.loc 9) (b:=.loc 19) (e:=EL sa np F R S.2.1 S.2.2 bS cq a.length sp bz again2 aG (J (.int m)) bQ (J (nv s)) (J (nv t)) (J (nv (y7 F R S.1 s t (Az m)))) (J (.ref aq)) (J (.ref qs)) bw bu bq) ∅ u1 (r_loc (v:=.ref qs) rfl) u1 (by lia);have e4:(st a X P1 c3).set sp (.list (vs3++[.ref qs]))=st a X P1 (c3.set k (.list (vs3++[.ref qs]))):=by rw[hk];exact H6
 rw[e4] at ap;refine oO ap ?_;obtain⟨c4,hc4⟩:=(⟨_,rfl⟩:∃c4,c4=c3.set k (.list (vs3++[.ref qs])))
 rw[<- hc4] at e4 ⊢;have g4:(st a X P1 (c4++[O.tup [nv t,nv s]]))[aG]? =J (.list [.ref w0,.ref w1]):=by
  rw[<- rL,<-e4,ae (by rw[cR];exact f0 s1),eN lf.ne];exact s1
 refine uB (wz (lc rfl (lz rfl)) (by show(2:Nat)<=1000;decide)) ∅ ∅ (Y4 g4 aX (by show(2:Nat)<1000;decide)) ?_;obtain⟨qw,hqw⟩:=(⟨_,rfl⟩:∃qw,qw=a.length+5+c4.length)
 rw[<- hqw];have e6:(st a X P1 (c4++[O.tup [nv t,nv s]])).set aG (.list ([V.ref w0,.ref w1].set S.2.1 (.ref qw)))=st a X P1 ((c4++[O.tup [nv t,nv s]]).set k' (.list ([V.ref w0,.ref w1].set S.2.1 (.ref qw)))):=by rw[hk'];exact H6
 have e7:(st a X P1 (c4++[O.tup [nv t,nv s]])).set aG (.list ([V.ref w0,.ref w1].set S.2.1 (.ref qw)))=(((st a X P1 c3).set sp (.list (vs3++[.ref qs])))++[O.tup [nv t,nv s]]).set aG (.list ([V.ref w0,.ref w1].set S.2.1 (.ref qw))):=by rw[e4,rL]
 have kp:∀i o,A7 a sp aG i->(st a X P1 c3)[i]? =J o->((st a X P1 (c4++[O.tup [nv t,nv s]])).set aG (.list ([V.ref w0,.ref w1].set S.2.1 (.ref qw))))[i]? =J o:=λi o hi g=>by rw[e7];exact Z9 hi.1 hi.2.1 g
 obtain⟨c6,hc6⟩:=(⟨_,rfl⟩:∃c6,c6=(c4++[O.tup [nv t,nv s]]).set k' (.list ([V.ref w0,.ref w1].set S.2.1 (.ref qw))))
 have l3:(st a X P1 c3).length=a.length+5+c3.length:=vc;have c4l:c4.length=c3.length:=by rw[hc4,cR]
 have c3l:c1.length<=c3.length:=by rw[hc3,hc2,a6,a6];lia
 have qw_ok:A7 a sp aG qw:=by rw[hqw,c4l];exact⟨by lia,by lia,.inr (by lia)⟩
 have gw:(st a X P1 c6)[qw]? =J (.tup [nv t,nv s]):=by
  rw[hc6,<-e6,eN (dT qw_ok.2.1),hqw,rD];exact bn
 rw[e6,<-hc6] at kp;rw[e6,<-hc6];have sp6:(st a X P1 c6)[sp]? =J (.list (vs3++[.ref qs])):=by
  rw[hc6,<-e6,e7,eN (dT lf.ne),ae (by rw[cR];exact f0 u1),fU (f0 u1)]
 have stp6:(st a X P1 c6)[aG]? =J (.list ([V.ref w0,.ref w1].set S.2.1 (.ref qw))):=by
  rw[hc6,<-e6,fU (f0 g4)]
 have wt:∀m',J (t,s)=J m'->m'.1<F*R:=λm' e=>by cases e;exact ok.lt
 have lf6:∃W0' W1',LF F R S0 h0 bh a (st a X P1 c6) sp aG (SS++[S1]) bS bT (ay++[.ref q]) W0' W1':=by
  have sts:∃vs,(st a X P1 c6)[sp]? =J (.list vs)/\CO (A7 a sp aG) (st a X P1 c6) vs (SS++[S1]):=⟨_,sp6,(u2.mono kp).snoc (sS3.mono kp)⟩
  rcases (Mine.Lake.u2 (by assumption:S.2.1<2)) with hz | hz
  .rw[hz] at stp6;exact⟨J (t,s),W1,lf.sp5,lf.stp5,lf.ne,sts,⟨qw,w1,stp6,⟨qw_ok,gw⟩,s4,kp _ _ s4 s5⟩,wt,lf.wr1,tr3.mono kp,λi o hi g=>kp i o hi (lf3.fr i o hi g)⟩
  .rw[hz] at stp6;exact⟨W0,J (t,s),lf.sp5,lf.stp5,lf.ne,sts,⟨w0,qw,stp6,⟨s2,kp _ _ s2 s3⟩,qw_ok,gw⟩,lf.wr0,wt,tr3.mono kp,λi o hi g=>kp i o hi (lf3.fr i o hi g)⟩
 obtain⟨W0',W1',lf6⟩:=lf6;have lst6:(SS++[S1]).getLast? =J S1:=by rw[hI];rfl
 have ln6:(SS++[S1]).length=SS.length+1:=by rw[a6];rfl
 rw[hP1] at lf6 ⊢;have ag:=O4 (d:=d) (m:=m) A hX g0 lf6 lst6 ch1 (by lia);refine lv (t:=cj) (ux (bi (lc rfl (lc rfl (lc rfl (lc rfl (lc rfl (lc rfl (lz rfl))))))) ag) bm) rfl (λe=>by cases e) λw=>om (go _ _ ?_);exact⟨_,_,_,_,_,_,S1,W0',W1',c6,S.2.1,S.2.2,cq,J (.int m),bQ,J (nv s),J (nv t),J (nv (y7 F R S.1 s t (Az m))),J (.ref aq),J (.ref qs),bw,bu,bq,lf6,lst6,ch1,by lia⟩
end
section
variable{d:Nat}{Q:QS}{sa np cq sp aG aC aA av h0 n wp:Nat}{aB:Bool}{m:Int}{S S0:qv}{SS:List qv}{ay:List V}{W0 W1:Option (Nat × Nat)}{bh a c:H}{X:uG}
theorem Mt(EB:TK F R)(A:PA a X)(hX:X.G=dL F R cc)(g0:Gp F R S0.1 S0.2.1 S0.2.2)(lf:LF F R S0 h0 bh a (st a X (pM (F*R) S aA av ay) c) sp aG SS aA av ay W0 W1)(lst:SS.getLast? =J S)(ch:uZ F R S0 h0 SS aA aC aB)(hn:SS.length<=n+1)(hn2:n<20)(Lc:(st a X (pM (F*R) S aA av ay) c)[cq]? =J (.list (S.1.map nv)))(oc:yu a cq)(hW:(st a X (pM (F*R) S aA av ay) c)[wp]? =J (AZ W))(ow:yu a wp)(hL:∀p,W=J p->H5 F R S p.1 p.2)(go:∀e h,LI F R S0 h0 bh sa np a X sp aG (n+1) e h->Q .next e h)(bk:∀e h,LI F R S0 h0 bh sa np a X sp aG (n+1) e h->Q .brk e h):
  oI (K0 (d+14)) (rI 3 Kt) (EL sa np F R S.2.1 S.2.2 aA cq a.length sp aC aB aG (J (.int m)) (J (.ref wp)) bP bO bN bD bx bw bu bq) (st a X (pM (F*R) S aA av ay) c) Q:=by
 revert aC aA av h0 n wp aB m S S0 SS ay W0 W1 bh a c X W bP bO bN bD bx bw bu bq;ext d Q sa np cq sp aG;revert bh a c X W bP bO bN bD bx bw bu bq;ext aC aA av h0 n wp aB m S S0 SS ay W0 W1;ext bh a c X W bP bO bN bD bx bw bu bq;have g:=lf.trail.gp g0 S lst;have bd:=EB.bd;have lf2:LF F R S0 h0 bh a (st a X (pM (F*R) S aA av ay) (c++[.tup []])) sp aG SS aA av ay W0 W1:=lf.move _;have Lc2:(st a X (pM (F*R) S aA av ay) (c++[.tup []]))[cq]? =J (.list (S.1.map nv)):=qi oc Lc;have hW2:(st a X (pM (F*R) S aA av ay) (c++[.tup []]))[wp]? =J (AZ W):=qi ow hW;have cond:∀{e:nw},e[14]? =J (J (.ref wp))->db (K0 (d+14)) (.cmp (.loc 14) .eq (.tup .nil)) e (st a X (pM (F*R) S aA av ay) c) (.bool W.isNone) (st a X (pM (F*R) S aA av ay) (c++[.tup []])):=λl=>
  pF (r_loc l) (wz f8 (dH _)) (Np hW2 (by rw[rD];exact bn))
 cases W with
 | none=>
  refine lv (t:=b9) (cond rfl) rfl (λw=>Zv (bk _ _ ?_)) λe=>by cases e
  exact⟨SS,aA,av,ay,aC,aB,S,W0,W1,_,S.2.1,S.2.2,cq,J (.int m),J (.ref wp),bP,bO,bN,bD,bx,bw,bu,bq,lf2,lst,ch,by lia⟩
 | some p=>
  obtain⟨s,t⟩:=p;have L:=hL _ rfl;have ok:=yK pl g L;have hsz:=bd.sz;have hF:=bd.f;have hR:=bd.r;refine lv (t:=cj) (cond rfl) rfl (λe=>by cases e) λw=>Ww (a:=a) (c:=c++[.tup []]) g.cg.cl.l hsz ok.ls ok.lt Lc2 hW2 (Xq (a:=a) (c:=c++[.tup []]) g.cg.cl.l g.cg.cl.v hF (by lia) hsz ok.ls ok.lt ok.ne ok.own.2 Lc2 oc λaq c' h5 hc' La=>?_);refine bc λkk=>?_;obtain⟨t',rfl⟩:=hc';obtain⟨vs,v1,v2⟩:=lf2.sts;obtain⟨w0,w1,s1,_⟩:=lf2.steps;refine kk ?_;clear kk;have lf3:LF F R S0 h0 bh a (st a X (pM (F*R) S aA av ay) (c++[.tup []]++t')) sp aG SS aA av ay W0 W1:=lf2.move _;have l1:=f0 v1;have l2:=f0 s1;rw[vc] at l1 l2;exact U9 A hX g0 L lf3 lst ch hn hn2 ⟨by lia,by lia,.inr (by lia)⟩ La go
theorem SK(EB:TK F R)(A:PA a X)(hX:X.G=dL F R cc)(g0:Gp F R S0.1 S0.2.1 S0.2.2)(hn2:n<20)(I:LI F R S0 h0 bh sa np a X sp aG n e h)(go:∀e h,LI F R S0 h0 bh sa np a X sp aG (n+1) e h->Q .next e h)(bk:∀e h,LI F R S0 h0 bh sa np a X sp aG (n+1) e h->Q .brk e h):oI (K0 (d+14)) Kt (e.set 13 (J (.int m))) h Q:=by
 revert sp aG h0 n m S0 bh a X e h;ext d Q sa np;ext sp aG h0 n m S0 bh a X e h;refine bc λkk=>?_;obtain⟨SS,aA,av,ay,aC,aB,S,W0,W1,c,sd,rt,cq0,x13,bQ,bP,bO,bN,bD,bx,bw,bu,bq,lf,lst,ch,hn⟩:=I;revert cq0 x13 bQ bP bO bN bD bx bw bu bq;ext SS aA av ay aC aB S W0 W1 c sd rt;ext cq0 x13 bQ bP bO bN bD bx bw bu bq;have g:=lf.trail.gp g0 S lst;have aX:=g.sd;obtain⟨vs,v1,v2⟩:=lf.sts;refine kk ?_;clear kk;have vl:=v2.at.len;have hl0:0<SS.length:=by cases SS with | nil=>cases lst | cons=>exact fJ _
 have len:∀{e:nw} {i:Nat},e[9]? =J (J (.ref sp))->db (K0 (d+14)) (.len i (.loc 9)) e (st a X (pM (F*R) S aA av ay) c) (nv SS.length) (st a X (pM (F*R) S aA av ay) c):=λ{e i} l=>by
  have z:=t5 (K:=K0 (d+14)) (i:=i) (a:=.loc 9) (e:=e) (r_loc l) (io v1) (by lia);rw[vl] at z;exact z
 have gs:∃q cq,vs[SS.length - 1]? =J (.ref q)/\A7 a sp aG cq/\(st a X (pM (F*R) S aA av ay) c)[q]? =J (.tup [.ref cq,nv S.2.1,nv S.2.2])/\(st a X (pM (F*R) S aA av ay) c)[cq]? =J (.list (S.1.map nv)):=by
  have:∀{vs:List V} {ss:List qv} {i:Nat},CO (A7 a sp aG) (st a X (pM (F*R) S aA av ay) c) vs ss->ss[i]? =J S->∃q cq,vs[i]? =J (.ref q)/\A7 a sp aG cq/\(st a X (pM (F*R) S aA av ay) c)[q]? =J (.tup [.ref cq,nv S.2.1,nv S.2.2])/\(st a X (pM (F*R) S aA av ay) c)[cq]? =J (.list (S.1.map nv)):=by
   intro vs ss
   induction vs generalizing ss with
   | nil=>
    intro i q e;cases ss with
    | nil=>cases e
    | cons s ss=>exact q.elim
   | cons v vs ih=>
    intro i q e;cases ss with
    | nil=>exact q.elim
    | cons s ss=>
     cases i with
     | zero=>
      cases e;refine bc λkk=>?_;obtain⟨⟨x,h1,cq,a1,a2,h2,h3⟩,_⟩:=q;refine kk ?_;clear kk;exact⟨x,cq,cI J h1,a2,h2,h3⟩
     | succ i=>exact ih q.2 e
  exact this v2 (wU lst)
 refine bc λkk=>?_;obtain⟨q,cq,q1,oc,q2,q3⟩:=gs;obtain⟨w0,w1,s1,⟨s2,s3⟩,s4,s5⟩:=lf.steps;refine kk ?_;clear kk;refine Ax (vs:=[.ref cq,nv S.2.1,nv S.2.2]) (pz ∅ (oM (len rfl) (ac (n:=1)) hl0) (io v1) q1 (by lia)) q2 rfl ?_;obtain⟨wq,W,e1,e2,e3,e4⟩:∃wq W,[V.ref w0,.ref w1][S.2.1]? =J (.ref wq)/\A7 a sp aG wq/\(st a X (pM (F*R) S aA av ay) c)[wq]? =J (AZ W)/\∀m,W=J m->m.1<F*R:=by
  rcases (Mine.Lake.u2 (by assumption:S.2.1<2)) with hz | hz<;>rw[hz]
  .exact⟨w0,W0,rfl,s2,s3,lf.wr0⟩
  .exact⟨w1,W1,rfl,s4,s5,lf.wr1⟩
 refine bs (pz ∅ ∅ (io s1) e1 (by lia)) ?_;have bV:=pl.bV S g;have kb:=Kw (d:=d+10) (wp:=wq) g.cg.cl g.cg.pw bV q3 e3 e4;have cond:∀{e:nw},e[13]? =J (J (.int m))->e[2]? =J (J (nv F))->e[3]? =J (J (nv R))->e[7]? =J (J (.ref cq))->e[4]? =J (J (nv S.2.1))->e[14]? =J (J (.ref wq))->db (K0 (d+14)) (.or (.cmp (.bin .mod (.loc 13) (.int 3)) .ne (.int 0)) (.not (.call 28 888 (.cons (.loc 2) (.cons (.loc 3) (.cons (.loc 7) (.cons (.loc 4) (.cons (.loc 14) .nil)))))))) e (st a X (pM (F*R) S aA av ay) c) (.bool (cu ((fg m (3:Nat)).toNat≠0)|| !B5 F R S.1 S.2.1 W)) (st a X (pM (F*R) S aA av ay) c):=λl13 l2 l3 l7 l4 l14=>
  sQ (tP (sE (r_loc l13) (ac (n:=3)) ⋯) (ac (n:=0))) (ux (bi (be (r_loc l2) (be (r_loc l3) (be (r_loc l7) (be (r_loc l4) (be (r_loc l14) f8))))) kb) bm)
 refine lv (cond rfl rfl rfl rfl rfl rfl) bm (λe5=>?_) λe5=>?_
 .have kp:=DK (d:=d+10) g.cg.cl g.cg.pw bV q3 (o8:=fH m (3:Nat));rw[rL,vc] at kp;refine bs (bi (lc rfl (lc rfl (lc rfl (lc rfl (be (yI ∅ (ac (n:=3)) ⋯ ⋯) f8))))) kp) (ld ?_);have lf2:LF F R S0 h0 bh a (st a X (pM (F*R) S aA av ay) (c++[AZ (w8 F R S.1 S.2.1 (fH m (3:Nat)))])) sp aG SS aA av ay W0 W1:=lf.move _;exact Mt EB A hX g0 lf2 lst ch hn hn2 (qi oc.bF q3) oc.bF (by rw[rD];exact bn) (.inr (di _ _)) (λp hp=>RZ hp) go bk
 .rw[fN,Bool.not_eq_false'] at e5;obtain⟨p,hp,L⟩:=S6 g.cg.cl.l e4 e5.2;exact Mt EB A hX g0 lf lst ch hn hn2 q3 oc.bF e3 e2.bF (λp' hp'=>by rw[hp] at hp';cases hp';exact L) go bk
end
def HR:Ss:=rI 14 GP.body
section
variable{d:Nat}{Q:QS}{sa np cq sp aG aC aA av h0 n:Nat}{aB:Bool}{S S0:qv}{SS:List qv}{ay:List V}{W0 W1:Option (Nat × Nat)}{bh a c:H}{X:uG}
theorem Ue(ho:o<=5)(hs:P.au<2):([.str (bb "*"),.str (if P.au=0 then bb "0-1" else bb "1-0"),.str (bb "1/2-1/2"),.str (bb "1/2-1/2"),.str (bb "1/2-1/2"),.str (bb "1/2-1/2")]:List V)[o]? =J (.str (Gz P o)):=by
 unfold Gz
 match o,ho with
 | 0,_=>rfl
 | 1,_=>rfl
 | 2,_ | 3,_ | 4,_ | 5,_=>rfl
theorem XY:Df G P ks<=5:=by
 ext G P ks;unfold Df
 repeat' split
 all_goals lia
theorem Ov:(!se G P P.au&& !AK G P)=cu (Df G P ks=2):=by
 unfold Df;cases AK G P<;>cases se G P P.au<;>simp
 repeat' split
 all_goals simp
theorem qC.weak(k:∀i,ok i->ok' i)(A:qC F R ok h S0 h0 SS aA av ay):qC F R ok' h S0 h0 SS aA av ay:=by
 induction A with
 | base=>exact .base
 | step C l L hp hq g ih=>exact .step ih l L hp (k _ hq) g
theorem QF(A:PA a X)(hX:X.G=dL F R cc)(g0:Gp F R S0.1 S0.2.1 S0.2.2)(tr:qC F R (yu a) (st a X (pM (F*R) S aA av ay) c) S0 h0 SS aA av ay)(lst:SS.getLast? =J S)(hl:1<SS.length)(hl2:SS.length<100):
  ∃SS' S' aU full' bg,SS'.length+1=SS.length/\SS'.getLast? =J S'/\qC F R (yu a) (st a X (pM (F*R) S' aU full' bg) c) S0 h0 SS' aU full' bg/\
   ii (K0 (d+3)) 811 [.ref a.length] (st a X (pM (F*R) S aA av ay) c) .none (st a X (pM (F*R) S' aU full' bg) c):=by
 ext d aA av h0 S S0 SS ay a c X;have k:∀(P':Ps) i o,yu a i->(st a X (pM (F*R) S aA av ay) c)[i]? =J o->(st a X P' c)[i]? =J o:=λP' i o hi g=>by
  have:=qi (t:=[]) (P':=P') hi g;rw[cP] at this;exact this
 obtain⟨h,hh⟩:=(⟨_,rfl⟩:∃h,h=st a X (pM (F*R) S aA av ay) c)
 rw[<- hh] at tr k;cases tr with
 | base=>exact cJ hl (eZ 1)
 | step C l L hp hq g=>
  rename_i SS' aU full' bg S' s t pr q;rw[hI] at lst;have e:rG F R S' s t pr=S:=by
   have:(J (rG F R S' s t pr))=J S:=lst;injection this
  subst e;have gp:=C.gp g0 S' l;rw[a6] at hl2;have hl2:SS'.length+1<100:=hl2;have tl:=C.len;have M:=Zi (aU:=sJ S'.1 s t aU) (kx':=sR (F*R) (rG F R S' s t pr).2.1 (rG F R S' s t pr).2.2) (aZ:=(rG F R S' s t pr).2.2) (ay:=bg++[.ref q]) (full':=if S'.2.1=1 then full'+1 else full') pl gp L hp (by rw[a6];show bg.length+1<900;lia) (by have:=C.bT;split<;>lia);have mt:=(Hg pl gp L hp).2.1;have un:=Vo (aA:=aU) (av:=full') (ay:=bg) (aU:=sJ S'.1 s t aU) (kx':=sR (F*R) (rG F R S' s t pr).2.1 (rG F R S' s t pr).2.2) (aZ:=(rG F R S' s t pr).2.2) (hs':=bg++[.ref q]) pl gp L hp;rw[<- hX] at M un;have g':h[q]? =J (.tup [nv (y7 F R S'.1 s t pr),nv (S'.1.getD t 0),nv S'.2.2,.int (-1),nv aU,nv (pM (F*R) S' aU full' bg).key]):=by
   have z:h[q]? =J (.tup [nv (y7 F R S'.1 s t pr),nv (S'.1.getD (qG (y7 F R S'.1 s t pr)) 0),nv S'.2.2,.int (-1),nv aU,nv (pM (F*R) S' aU full' bg).key]):=g;rw[mt] at z;exact z
  rw[hh] at g';have kd:=Jn (d:=d) (c:=c) (hs:=bg) A M rfl g' hq;rw[un] at kd;exact⟨SS',S',aU,full',bg,by rw[a6];rfl,l,C.mono λi o hi g=>k _ i o hi g,kd⟩
theorem Sj{h:H}{ns:List Int}{n1 n2:Int}(A:PA a X)(hX:X.G=dL F R cc)(g0:Gp F R S0.1 S0.2.1 S0.2.2)(I:LI F R S0 h0 bh sa np a X sp aG n e h)(hn:n<20)(hns:bh[np]? =J (.list (ns.map .int)))(onp:A7 a sp aG np)(e1:ns[1]? =J n1)(e2:ns[2]? =J n2)(hh0:(fg n1 (104:Nat)).toNat=h0)(q:∀e h,Q (.ret (.bool b9)) e h):oI (K0 (d+14)) HR e h Q:=by
 revert aG h0 n S0 bh a X e h ns n1 n2;ext d Q sa np sp;ext aG h0 n S0 bh a X e h ns n1 n2;refine bc λkk=>?_;obtain⟨SS,aA,av,ay,aC,aB,S,W0,W1,c,sd,rt,cq,x13,bQ,bP,bO,bN,bD,bx,bw,bu,bq,lf,lst,ch,hl⟩:=I;revert cq x13 bQ bP bO bN bD bx bw bu bq;ext SS aA av ay aC aB S W0 W1 c sd rt;ext cq x13 bQ bP bO bN bD bx bw bu bq;have g:=lf.trail.gp g0 S lst;have aX:=g.sd;obtain⟨vs,v1,v2⟩:=lf.sts;ext vs;have vl:=v2.at.len;have hl0:0<SS.length:=by cases SS with | nil=>cases (lst) | cons=>exact fJ _
 have hk:=lf.trail.hk (P:=pM (F*R) S aA av ay) rfl (by lia);have gd:=pl.gd S aA av ay g;have pk:=Iz (aA:=aA) (av:=av) (ay:=ay) g.cg.cl.l g.sd g.cg.cl.bd.sz;rw[<- hX] at gd pk;obtain⟨P,hP⟩:=(⟨_,rfl⟩:∃P,P=pM (F*R) S aA av ay)
 ext P;have Ps:P.au=S.2.1:=by rw[hP];rfl
 obtain⟨ks,hks⟩:=(⟨_,rfl⟩:∃ks,ks=SS.dropLast.map (yR (F*R)))
 refine kk ?_;clear kk;rw[<- hP,<-hks] at hk;rw[<- hP] at gd pk v1 v2;have npc:∀{t:H},(st a X P (c++t))[np]? =J (.list (ns.map .int)):=λ{t}=>by
  have:=lf.fr np _ onp hns;rw[<- hP] at this;exact qi onp.bF this
 have num:∀{e:nw} {t:H} {j:Nat} {x:Int},ns[j]? =J x->j<7->e[1]? =J (J (.ref np))->db (K0 (d+14)) (.sub (.loc 1) (.int (fq j))) e (st a X P (c++t)) (.int x) (st a X P (c++t)):=λhx hj l=>pz (r_loc l) ac (io npc) (by rw[cY,hx];rfl) (by lia);have At0:∀{t:H},At (st a X P (c++t)) a.length X P:=λ{t}=>A.at pk;have hk2:∀{t:H},HK (st a X P (c++t)) P ks:=λ{t}=>by rw[<- rL];exact hk.app t
 rw[<- hP];have e0:st a X P c=st a X P (c++[]):=by rw[cP]
 have oc:=λ(t:H)=>AR (d:=d+3) (At0 (t:=t)) hk2 gd;refine bs (v:=nv (Df X.G P ks)) (h1:=st a X P c) (by rw[e0];exact bi (lz rfl) (oc [])) ?_;obtain⟨o,ho⟩:=(⟨_,rfl⟩:∃o,o=Df X.G P ks)
 have o5:o<=5:=by rw[ho];exact XY
 rw[<- ho];obtain⟨q0,cq0,q1,q2,q3⟩:∃q0 cq0,vs[SS.length - 1]? =J (.ref q0)/\(st a X P c)[q0]? =J (.tup [.ref cq0,nv S.2.1,nv S.2.2])/\True:=by
  refine bc λkk=>?_;obtain⟨q0,h1,cq0,h2,h3⟩:=v2.at.get (wU lst);refine kk ?_;clear kk;exact⟨q0,cq0,h1,h2,trivial⟩
 have v1':∀{t:H},(st a X P (c++t))[sp]? =J (.list vs):=λ{t}=>qi (.inr lf.sp5) v1;have q2':∀{t:H},(st a X P (c++t))[q0]? =J (.tup [.ref cq0,nv S.2.1,nv S.2.2]):=λ{t}=>by rw[<- rL,ae (f0 q2)];exact q2
 have len:∀{e:nw} {i:Nat} {t:H},e[9]? =J (J (.ref sp))->db (K0 (d+14)) (.len i (.loc 9)) e (st a X P (c++t)) (nv SS.length) (st a X P (c++t)):=λ{e i t} l=>by
  have z:=t5 (K:=K0 (d+14)) (i:=i) (a:=.loc 9) (e:=e) (r_loc l) (io (v1' (t:=t))) (by lia);rw[vl] at z;exact z
 have sdE:∀{e:nw} {t:H},e[9]? =J (J (.ref sp))->db (K0 (d+14)) (.sub (.sub (.loc 9) (.bin .sub (.len 27 (.loc 9)) (.int 1))) (.int 1)) e (st a X P (c++t)) (nv S.2.1) (st a X P (c++t)):=λl=>
  pz (pz (r_loc l) (oM (len l) (ac (n:=1)) hl0) (io v1') q1 (by lia)) (ac (n:=1)) (ud q2') rfl ⋯
 obtain⟨txt,htx⟩:=(⟨_,rfl⟩:∃txt,txt=if S.2.1=0 then bb "0-1" else bb "1-0");have tl:∃t lp,db (K0 (d+14)) (.bin .add (.list (.cons (.str (bb "*")) (.cons (.sub (.list (.cons (.str (bb "0-1")) (.cons (.str (bb "1-0")) .nil))) (.sub (.sub (.loc 9) (.bin .sub (.len 27 (.loc 9)) (.int 1))) (.int 1))) .nil))) (.rep (.cons (.str (bb "1/2-1/2")) .nil) (.int 4)))
   ((EL sa np F R sd rt aA cq a.length sp aC aB aG x13 bQ bP bO bN bD bx bw bu bq).set 20 (J (nv o))) (st a X P c) (.ref lp) (st a X P (c++t))/\(st a X P (c++t))[lp]? =J (.list [.str (bb "*"),.str txt,.str (bb "1/2-1/2"),.str (bb "1/2-1/2"),.str (bb "1/2-1/2"),.str (bb "1/2-1/2")]):=by
  have a1:=qp (K:=K0 (d+14)) (xs:=[.str (bb "0-1"),.str (bb "1-0")]) (h:=st a X P c) (e:=(EL sa np F R sd rt aA cq a.length sp aC aB aG x13 bQ bP bO bN bD bx bw bu bq).set 20 (J (nv o))) (be BZ (be BZ f8)) (by show(2:Nat)<=1000;decide);have a2:db (K0 (d+14)) (.sub (.list (.cons (.str (bb "0-1")) (.cons (.str (bb "1-0")) .nil))) (.sub (.sub (.loc 9) (.bin .sub (.len 27 (.loc 9)) (.int 1))) (.int 1))) ((EL sa np F R sd rt aA cq a.length sp aC aB aG x13 bQ bP bO bN bD bx bw bu bq).set 20 (J (nv o))) (st a X P c) (.str txt) (st a X P c++[.list [.str (bb "0-1"),.str (bb "1-0")]]):=by
   refine pz a1 (by rw[rL];exact sdE rfl) (io bn) ?_ (by lia);rw[htx];rcases (Mine.Lake.u2 (by assumption:S.2.1<2)) with hz | hz<;>rw[hz]<;>rfl
  have a3:=qp (K:=K0 (d+14)) (be (BZ (k:=bb "*")) (be a2 f8)) (by show(2:Nat)<=1000;decide);have a4:=Nq (K:=K0 (d+14)) (e:=(EL sa np F R sd rt aA cq a.length sp aC aB aG x13 bQ bP bO bN bD bx bw bu bq).set 20 (J (nv o))) (h:=st a X P c++[.list [.str (bb "0-1"),.str (bb "1-0")]]++[.list [.str (bb "*"),.str txt]]) (be (BZ (k:=bb "1/2-1/2")) f8) (ac (n:=4)) (by show(1:Nat)<=10;decide) ⋯;have a5:=uF (o:=.add) (z:=.ref (st a X P c++[O.list [V.str (bb "0-1"),V.str (bb "1-0")]]++[O.list [V.str (bb "*"),V.str txt]]++[O.list (cZ 4 [V.str (bb "1/2-1/2")]).flatten]).length) (h3:=st a X P c++[O.list [V.str (bb "0-1"),V.str (bb "1-0")]]++[O.list [V.str (bb "*"),V.str txt]]++[O.list (cZ 4 [V.str (bb "1/2-1/2")]).flatten]++[.list [.str (bb "*"),.str txt,.str (bb "1/2-1/2"),.str (bb "1/2-1/2"),.str (bb "1/2-1/2"),.str (bb "1/2-1/2")]]) a3 a4 (by
   unfold pD;dsimp only;rw[ae (by simp),bn,bn];rfl)
  refine⟨[O.list [V.str (bb "0-1"),V.str (bb "1-0")]]++[O.list [V.str (bb "*"),V.str txt]]++[O.list (cZ 4 [V.str (bb "1/2-1/2")]).flatten]++[.list [.str (bb "*"),.str txt,.str (bb "1/2-1/2"),.str (bb "1/2-1/2"),.str (bb "1/2-1/2"),.str (bb "1/2-1/2")]],(st a X P c++[O.list [V.str (bb "0-1"),V.str (bb "1-0")]]++[O.list [V.str (bb "*"),V.str txt]]++[O.list (cZ 4 [V.str (bb "1/2-1/2")]).flatten]).length,?_,?_⟩;rotate_left
  .rw[<- rL,<-aa,<-aa,<-aa];exact bn
  .rw[<- rL,<-aa,<-aa,<-aa];exact a5
 obtain⟨t,lp,tl,tg⟩:=tl;refine bs tl ?_;have rtx:=Fy (d:=d+2) (At0 (t:=t)) hk2 gd;have stl:=EY (d:=d+3) (At0 (t:=t)) gd;rw[Ov (ks:=ks),<-ho] at stl;rw[<- ho] at rtx;have tok:=Ue (P:=P) (o:=o) o5 (by rw[Ps];exact aX);rw[Ps,<-htx] at tok;refine DC (by
  have z1:=pF (K:=K0 (d+14)) (co:=.ne) (t:=cj) (bi (i:=33) (be (r_loc (i:=8) (e:=((EL sa np F R sd rt aA cq a.length sp aC aB aG x13 bQ bP bO bN bD bx bw bu bq).set 20 (J (nv o))).set 21 (J (.ref lp))) rfl) f8) rtx) (pz (r_loc (i:=21) rfl) (r_loc (i:=20) (v:=nv o) rfl) (io tg) tok (by lia)) (by show J (Gz P o != Gz P o)=_;rw[bne_self_eq_false]);have z2:=Gk (K:=K0 (d+14)) (bi (i:=34) (be (r_loc (i:=8) (e:=((EL sa np F R sd rt aA cq a.length sp aC aB aG x13 bQ bP bO bN bD bx bw bu bq).set 20 (J (nv o))).set 21 (J (.ref lp))) rfl) f8) stl) (oQ (r_loc (i:=20) (v:=nv o) rfl) (ac (n:=2)));have z:=sQ z1 z2;rw[bne_self_eq_false] at z;exact z) ?_
 have tr0:qC F R (yu a) (st a X P (c++t)) S0 h0 SS aA av ay:=by
  have z:=lf.trail.weak (ok':=yu a) λi hi=>hi.bF;rw[hP];exact z.mono λi o hi g=>qi hi g
 refine rV (n:=0) (m:=SS.length - 1) (lw _) (qd (be (oM (len rfl) (ac (n:=1)) hl0) f8) (by lia)) bn (by lia) (by lia)
  (λj e h=>∃SS' S' aU full' bg bq,SS'.length+j=SS.length/\SS'.getLast? =J S'/\qC F R (yu a) (st a X (pM (F*R) S' aU full' bg) (c++t++[.aT 0 (SS.length - 1:Nat) 1])) S0 h0 SS' aU full' bg/\h=st a X (pM (F*R) S' aU full' bg) (c++t++[.aT 0 (SS.length - 1:Nat) 1])/\
   e=EL sa np F R sd rt aA cq a.length sp aC aB aG x13 bQ bP bO bN bD bx (J (nv o)) (J (.ref lp)) bq)
  ⟨SS,S,aA,av,ay,bq,rfl,lst,by rw[<- hP];exact tr0.mono λi o hi g=>qi hi g,by rw[rL,hP],rfl⟩ (λj w hj e h z=>?_) λe h z=>?_
 .refine bc λkk=>?_;obtain⟨SS',S',aU,full',bg,y22,l1,l2,l3,rfl,rfl⟩:=z;obtain⟨SS2,S2,half2,full2,hist2,m1,m2,m3,m4⟩:=QF (d:=d+11) A hX g0 l3 l2 (by lia) (by lia);refine kk ?_;clear kk;exact oO (bi (lz rfl) m4) (om ⟨SS2,S2,half2,full2,hist2,J (nv j),by lia,m2,m3,rfl,rfl⟩)
 .refine bc λkk=>?_;obtain⟨SS',S',aU,full',bg,y22,l1,l2,l3,rfl,rfl⟩:=z;refine kk ?_;clear kk;have le:SS'=[S0]/\aU=h0/\full'=1/\bg=[]:=by
   cases l3 with
   | base=>exact⟨rfl,rfl,rfl,rfl⟩
   | step C0 l L hp hq g=>
    have:=C0.len;rw[a6] at l1;have:∀x:qv,[x].length=1:=λw=>rfl;rw[this] at l1;lia
  obtain⟨rfl,rfl,rfl,rfl⟩:=le;cases (l2);have v3:(st a X (pM (F*R) S0 aU 1 []) (c++t++[.aT 0 (SS.length - 1:Nat) 1]))[sp]? =J (.list vs):=by
   rw[aa];exact qi (.inr lf.sp5) v1
  have fst:∃S1 q1,vs[0]? =J (.ref q1)/\xm (A7 a sp aG) (st a X P c) q1 S1/\SS[0]? =J S1:=by
   cases vs with
   | nil=>cases SS with
    | nil=>cases (hl0)
    | cons=>cases (vl)
   | cons v vs=>cases SS with
    | nil=>cases (hl0)
    | cons s ss=>
     obtain⟨⟨x,h1,h2⟩,_⟩:=v2
     exact⟨s,x,cI J h1,h2,rfl⟩
  refine bc λkk=>?_;obtain⟨S1,q1',f1,f2,f3⟩:=fst;refine kk ?_;clear kk;have f4:S1=S0:=by
   have:∀{SS:List qv} {aA aC:Nat} {aB:Bool},uZ F R S0 aU SS aA aC aB->SS[0]? =J S0:=λ{SS aA aC aB} ch=>by
    induction ch with
    | base=>rfl
    | step C0 l L hp ih=>rw[ae (f0 ih)];exact ih
   have:=this ch;rw[f3] at this;cases (this);rfl
  subst f4;have vt:vs.take 1=[.ref q1']:=by
   cases vs with
   | nil=>cases (f1)
   | cons v vs=>cases (f1);rfl
  have sl:∀{e:nw},e[9]? =J (J (.ref sp))->db (K0 (d+14)) (.slice (.loc 9) .bK (.int 1)) e (st a X (pM (F*R) S1 aU 1 []) (c++t++[.aT 0 (SS.length - 1:Nat) 1])) (.ref (a.length+5+(c++t++[O.aT 0 (SS.length - 1:Nat) 1]).length)) (st a X (pM (F*R) S1 aU 1 []) (c++t++[.aT 0 (SS.length - 1:Nat) 1]++[.list [.ref q1']])):=λl=>
   vW (r_loc l) yk (ac (n:=1)) (by
    rw[tC (x:=.ref sp) (a:=0) (b:=1) v3 rfl (xM (n:=1)) (by lia),nc,vc,rL,vt])
  have f5:El (st a X (pM (F*R) S1 aU 1 []) (c++t++[.aT 0 (SS.length - 1:Nat) 1]++[.list [.ref q1']])) q1' S1:=(f2.mono λi o hi g=>by rw[aa,aa];exact qi hi.bF g).at;have ag:=yt (d:=d) (m:=n2) (sp:=a.length+5+(c++t++[O.aT 0 (SS.length - 1:Nat) 1]).length) (vs:=[.ref q1']) (SS:=[S1]) (S:=S1) (h0:=aU) (aA:=aU) (av:=1) (ay:=[]) (c:=c++t++[.aT 0 (SS.length - 1:Nat) 1]++[.list [.ref q1']]) (ok:=yu a) A hX g0 .base (by rw[rD];exact bn) ⟨⟨q1',rfl,f5⟩,trivial⟩ rfl .base (by show(1:Nat)<100;decide);have np3:∀{t':H},(st a X (pM (F*R) S1 aU 1 []) (c++t++[.aT 0 (SS.length - 1:Nat) 1]++t'))[np]? =J (.list (ns.map .int)):=λ{t'}=>by
   have:=lf.fr np _ onp hns;rw[aa,aa];exact qi onp.bF this
  have numF:∀{e:nw} {j:Nat} {x:Int},ns[j]? =J x->j<7->e[1]? =J (J (.ref np))->db (K0 (d+14)) (.sub (.loc 1) (.int (fq j))) e (st a X (pM (F*R) S1 aU 1 []) (c++t++[.aT 0 (SS.length - 1:Nat) 1]++[.list [.ref q1']])) (.int x) (st a X (pM (F*R) S1 aU 1 []) (c++t++[.aT 0 (SS.length - 1:Nat) 1]++[.list [.ref q1']])):=λhx hj l=>pz (r_loc l) ac (io np3) (by rw[cY,hx];rfl) (by lia);rw[<- hh0] at ag;rw[<- hh0] at sl numF;rw[<- hh0];exact uy (bi (lc rfl (lc rfl (lc rfl (be (sl rfl) (be o7 (be (sE (numF e1 ⋯ rfl) (ac (n:=104)) ⋯) (be (numF e2 ⋯ rfl) f8))))))) ag) (q _ _)
end
section
variable{K:pN}{e:nw}{h h1:H}{it elt:E}{i f n:Nat}{v:V}{r:Ss}{Q:QS}{es:Es}{vs:List V}{R:V->H->Prop}
theorem NL(A:F7 K es e (st a X P c) xs (st a X P c'))(l:xs.length<=1000):db K (.list es) e (st a X P c) (.ref (a.length+5+c'.length)) (st a X P (c'++[.list xs])):=by
 have z:=qp A l;rw[rL,vc] at z;exact z
theorem Vs(A:F7 K es e h vs h1)(B:Rk K f vs h1 R):YC K (.call i f es) e h R:=⟨λQ q=>A.go _ (B.go _ q)⟩
theorem Uy(M:K.aV)(A:db K it e h v h1)(l:Fm K h1 v=J (.aT ((0:Nat):Int) (n:Int) 1))(hn:n<1000)(el:∀j,j<n->∀t,db K elt (e.set i (J (nv j))) (h1++t) (g j) (h1++t)):db K (.comp elt i it (.bool b9)) e h (.ref h1.length) (h1++[.list ((cn n).map g)]):=
 Ff M A l n (λj h=>h=h1++[.list ((cn j).map g)]) rfl (λj hj h q=>by
  subst q;have ri:=tN (K:=K) (h:=h1++[.list ((cn j).map g)]) (x:=v) (n:=0) (m:=n) (j:=j) (N:=n) (d6 _);rw[cG hj,d6] at ri;refine⟨nv j,_,b9,_,ri,o7,rfl,λe1=>⟨_,_,_,el j hj _,zn (t:=[]) (by rw[bj,dv];lia),?_⟩,λe1=>by cases e1⟩;rw[gk,dR];rfl) λh q=>by
  subst q;have ri:=tN (K:=K) (h:=h1++[.list ((cn n).map g)]) (x:=v) (n:=0) (m:=n) (j:=n) (N:=n) (d6 _);rw[cH (eZ _)] at ri;exact⟨ri,rfl⟩
end
section
variable{d:Nat}{sa:Nat}{h2:H}
theorem Ql{ms ns:List Int}{Q:V->H->Prop}(EB:TK F R)(b:VL F R cc)(hsa:Ca sa=J (.list (ms.map .int)))(hms:ms.length<=63)(hns:ns.length=7)(hh:h2[1]? =J (.list (ns.map .int)))(hc:h2.length=5)(q:∀h,Q (.bool b9) h):
  oI (K0 (d+14)) YF (S3 sa F R U U U U U U U U U) h2 (qP 0 Q):=by
 ext d sa h2 ms ns Q;have bd:=EB.bd;have hF:=bd.f;have ge:∀{j:Nat},j<7->∃x,ns[j]? =J x:=λhj=>⟨_,a7 (by rw[hns];exact hj)⟩
 refine bc λkk=>?_;obtain⟨n0,e0⟩:=ge (j:=0) ⋯;obtain⟨n1,e1⟩:=ge (j:=1) ⋯;obtain⟨n2,e2⟩:=ge (j:=2) ⋯;have num:∀{e:nw} {j:Nat} {x:Int},ns[j]? =J x->j<7->e[1]? =J (J (.ref 1))->db (K0 (d+14)) (.sub (.loc 1) (.int (fq j))) e h2 (.int x) h2:=λhx hj l=>pz (r_loc l) ac (io hh) (by rw[cY,hx];rfl) (by lia);obtain⟨au,aX⟩:=(⟨_,rfl⟩:∃au,au=(fg (fH n0 (2:Nat)) (2:Nat)).toNat)
 refine kk ?_;clear kk;have sd2:au<2:=by rw[aX];exact sI _ ⋯
 refine bs (v:=nv au) (by rw[aX];exact sE (yI (num e0 ⋯ rfl) (ac (n:=2)) ⋯ ⋯) (ac (n:=2)) ⋯) (bs ac ?_);obtain⟨az,hrt⟩:=(⟨_,rfl⟩:∃az,az=if F=7 then(fg (fH n0 (4:Nat)) (16:Nat)).toNat else 0)
 have r16:az<16:=by
  rw[hrt];split
  .exact sI _ ⋯
  .decide
 have r0:F=3->az=0:=λe=>by rw[hrt,cH (by lia)]
 suffices rest:oI (K0 (d+14)) (rI 5 GP.body) (S3 sa F R (J (nv au)) (J (nv az)) U U U U U U U) h2 (qP 0 Q) by
  refine lv (oQ ∅ ac) bm (λe5=>?_) λe5=>?_
  .rw[cG (cy e5)] at hrt;exact bs (v:=nv az) (by rw[hrt];exact sE (yI (num e0 ⋯ rfl) (ac (n:=4)) ⋯ ⋯) (ac (n:=16)) ⋯) (ld rest)
  .rw[cH (cz e5)] at hrt;subst hrt;exact rest
 obtain⟨h0,hh0⟩:=(⟨_,rfl⟩:∃h0,h0=(fg n1 (104:Nat)).toNat)
 refine bs (v:=nv h0) (by rw[hh0];exact sE (num e1 ⋯ rfl) (ac (n:=104)) ⋯) ?_;refine Sr (Vs (lc rfl (lc rfl (lc rfl (lc rfl (lz rfl))))) (Km (d:=d+11) EB sd2 r16 r0 hns hh)) λv h' z=>?_;refine bc λkk=>?_;obtain⟨cs,g0,rfl,rfl⟩:=z;obtain⟨S0,hS0⟩:=(⟨_,rfl⟩:∃S0:qv,S0=(cs,au,az))
 have g0':Gp F R S0.1 S0.2.1 S0.2.2:=by rw[hS0];exact g0
 have kp:=DL (d:=d+10) (aA:=h0) (au:=au) (T:=h2++[.list (cs.map nv)]) (cp:=h2.length) b g0.cg.cl (λi hi=>g0.pc hi) r16 bn;have A:=QD (T:=h2++[O.list (cs.map nv)]) b;obtain⟨X,hX⟩:=(⟨_,rfl⟩:∃X,X=xS (h2++[O.list (cs.map nv)]).length F R cc)
 have hXG:X.G=dL F R cc:=by rw[hX];rfl
 obtain⟨a,ha⟩:=(⟨_,rfl⟩:∃a,a=aP (h2++[O.list (cs.map nv)]) F R cc)
 have at0:∃t0,a=h2++[O.list (cs.map nv)]++t0:=⟨_,ha⟩
 obtain⟨t0,at0⟩:=at0;refine kk ?_;clear kk;have pS:oj (F*R) cs au az h0 1 (sR (F*R) au az) []=pM (F*R) S0 h0 1 []:=by rw[hS0];rfl
 rw[pS,<-hX,<-ha] at kp;rw[<- hX,<-ha] at A;clear ha hX;refine bs (bi (lc rfl (lc rfl (lc rfl (lc rfl (lc rfl (lz rfl)))))) kp) ?_;have al:h2.length<a.length:=by rw[at0,a6,a6];show _<_+1+_;lia
 have gcs:∀{P:Ps} {c:H},(st a X P c)[h2.length]? =J (.list (cs.map nv)):=λ{P c}=>by
  rw[sM al,at0,ae (by rw[a6];exact dO _)];exact bn
 have gns:∀{P:Ps} {c:H},(st a X P c)[1]? =J (.list (ns.map .int)):=λ{P c}=>by
  rw[sM (by lia),at0,aa,ae (by lia)];exact hh
 refine bs (v:=.ref (a.length+5+2)) (h1:=st a X (pM (F*R) S0 h0 1 []) ([.aT 0 (F*R:Nat) 1]++[.tup [.ref h2.length,nv au,nv az]]++[.list [.ref (a.length+5+1)]])) (NL (be (wz (lc rfl (lc rfl (lz rfl))) (by show(3:Nat)<=1000;decide)) f8) (by show(1:Nat)<=1000;decide)) (bs ac (bs o7 ?_));refine bs (v:=.ref (a.length+5+5)) (h1:=st a X (pM (F*R) S0 h0 1 []) ([.aT 0 (F*R:Nat) 1]++[.tup [.ref h2.length,nv au,nv az]]++[.list [.ref (a.length+5+1)]]++[.tup []]++[.tup []]++[.list [.ref (a.length+5+3),.ref (a.length+5+4)]])) (NL (be (wz f8 (dH _)) (be (wz f8 (dH _)) f8)) (by show(2:Nat)<=1000;decide)) ?_;obtain⟨c6,hc6⟩:=(⟨_,rfl⟩:∃c6,c6=[O.aT 0 (F*R:Nat) 1]++[O.tup [.ref h2.length,nv au,nv az]]++[O.list [.ref (a.length+5+1)]]++[O.tup []]++[O.tup []]++[O.list [.ref (a.length+5+3),.ref (a.length+5+4)]])
 rw[<- hc6];have gc:∀{P:Ps} {t:H} {j:Nat} {o:O},c6[j]? =J o->(st a X P (c6++t))[a.length+5+j]? =J o:=λ{P t j o} hj=>by rw[rD,ae (f0 hj)];exact hj
 have d1:c6[1]? =J (.tup [.ref h2.length,nv S0.2.1,nv S0.2.2]):=by rw[hc6,hS0];rfl
 have d2:c6[2]? =J (.list [.ref (a.length+5+1)]):=by rw[hc6];rfl
 have d3:c6[3]? =J (.tup []):=by rw[hc6];rfl
 have d4:c6[4]? =J (.tup []):=by rw[hc6];rfl
 have d5:c6[5]? =J (.list [.ref (a.length+5+3),.ref (a.length+5+4)]):=by rw[hc6];rfl
 have c6l:c6.length=6:=by rw[hc6];rfl
 have hcs:S0.1=cs:=by rw[hS0]
 have ok:∀{j:Nat},j≠2->j≠5->A7 a (a.length+5+2) (a.length+5+5) (a.length+5+j):=λh1 h2=>⟨by lia,by lia,.inr (by lia)⟩
 have s0:∀{t:H},xm (A7 a (a.length+5+2) (a.length+5+5)) (st a X (pM (F*R) S0 h0 1 []) (c6++t)) (a.length+5+1) S0:=λ{t}=>⟨h2.length,ok ⋯ ⋯,⟨by lia,by lia,.inl al⟩,gc d1,by rw[hcs];exact gcs⟩
 have e6:st a X (pM (F*R) S0 h0 1 []) c6=st a X (pM (F*R) S0 h0 1 []) (c6++[]):=by rw[cP]
 have ag:=yt (d:=d) (m:=n2) (sp:=a.length+5+2) (vs:=[.ref (a.length+5+1)]) (SS:=[S0]) (S:=S0) (h0:=h0) (aA:=h0) (av:=1) (ay:=[]) (c:=c6) (ok:=yu a) A hXG g0' .base (by rw[e6];exact gc d2) (by rw[e6];exact⟨⟨_,rfl,s0.at⟩,trivial⟩) rfl .base (by show(1:Nat)<100;decide);refine lv (t:=cj) (ux (bi (lc rfl (lc rfl (lc rfl (lc rfl (be o7 (lc rfl (be (pz ∅ (ac (n:=2)) (io gns) (by rw[cY,e2];rfl) ⋯) f8))))))) ag) bm) rfl (λe=>by cases e) λw=>?_;obtain⟨xs,hxs⟩:=(⟨_,rfl⟩:∃xs,xs=((ms.map V.int).take 15).drop 7)
 have xl:xs.length<=8:=by rw[hxs,jN,dE];lia
 obtain⟨bh,hh00⟩:=(⟨_,rfl⟩:∃bh,bh=st a X (pM (F*R) S0 h0 1 []) (c6++[.list xs]))
 have glp:bh[a.length+5+6]? =J (.list xs):=by rw[hh00,rD,<-c6l];exact bn
 have gnp:bh[1]? =J (.list (ns.map .int)):=by rw[hh00];exact gns
 have stN:A7 a (a.length+5+2) (a.length+5+5) 1:=⟨by lia,by lia,.inl (by lia)⟩
 have lf:LF F R S0 h0 bh a bh (a.length+5+2) (a.length+5+5) [S0] h0 1 [] U U:=by
  refine⟨di _ _,di _ _,(by lia),⟨[.ref (a.length+5+1)],(by rw[hh00];exact gc d2),⟨⟨_,rfl,(by rw[hh00];exact s0)⟩,trivial⟩⟩,⟨a.length+5+3,a.length+5+4,(by rw[hh00];exact gc d5),⟨ok ⋯ ⋯,(by rw[hh00];exact gc d3)⟩,⟨ok ⋯ ⋯,(by rw[hh00];exact gc d4)⟩⟩,(λm e=>by cases e),(λm e=>by cases e),qC.base,λi o hi g=>g⟩
 have fin:∀n e h,n<20->LI F R S0 h0 bh sa 1 a X (a.length+5+2) (a.length+5+5) n e h->oI (K0 (d+14)) HR e h (qP 0 Q):=λn e h hn I=>Sj A hXG g0' I hn gnp stN e1 e2 hh0.symm λe h=>.inl (q h);refine Hn (v:=.ref (a.length+5+6)) (xs:=xs) (h1:=bh) (lw _) (vW ∅ (ac (n:=7)) (ac (n:=15)) ?_) glp (λj e h=>LI F R S0 h0 bh sa 1 a X (a.length+5+2) (a.length+5+5) j e h) ?_ (λj e h I=>?_) rfl (λj v hv e h I=>?_) λe h I=>fin _ e h (by lia) I
 .rw[tC (x:=.con sa) (xs:=ms.map .int) (a:=7) (b:=15) (by show(K0 (d+14)).con sa=_;rw[L9];exact hsa) (xM (n:=7)) (xM (n:=15)) (by rw[bj];lia),vc,rL,c6l,hh00,hxs]
 .exact LI.of hh00 lf rfl .base (da _)
 .refine bc λkk=>?_;obtain⟨SS,aA,av,ay,aC,aB,S,W0,W1,c,sd,rt,cq,x13,bQ,bP,bO,bN,bD,bx,bw,bu,bq,lf,lst,ch,hn⟩:=I;refine kk ?_;clear kk;exact lf.fr _ _ (ok ⋯ ⋯) glp
 .have hm:∃m:Int,v= .int m:=by
   have hv':v∈xs:=dD hv;rw[hxs] at hv';obtain⟨m,_,rfl⟩:=ef.mp (hE (kP hv'));exact⟨m,rfl⟩
  obtain⟨m,rfl⟩:=hm;have hj:j<xs.length:=f0 hv;exact(SK (Q:=o8 (λe h=>LI F R S0 h0 bh sa 1 a X (a.length+5+2) (a.length+5+5) (j+1) e h) (sw (K0 (d+14)) HR (qP 0 Q))) EB A hXG g0' (by lia) I (λe h I=>I) λe h I=>(fin _ e h (by lia) I).go).go
end
section
theorem brd:VL F R cc:=KY (C:=VL) aae ZV
theorem RR:(K0 24).call 922 [.con KL] [] (λv w=>v= .bool b9):=by
 exact ZD (d:=23) rfl λhc=>by
   have hsa:Ca KL=J (.list (PB.map .int)):=by unfold Ca z7;rw[cG rfl]
   have nl0:=NH;have hK:(K0 23).con=Ca:=L9 23;obtain⟨Q,hQ⟩:=(⟨_,rfl⟩:∃Q:V->H->Prop,Q=λv w=>v= .bool b9)
   rw[<- hQ];have q:∀h,Q (.bool b9) h:=λh=>by rw[hQ]
   obtain⟨ns,hns⟩:=(⟨_,rfl⟩:∃ns:List Int,ns=YD)
   have nl:ns.length=7:=by rw[hns];unfold YD;rw[bj,dv]
   have so:∀{h:H},pQ (K0 23) h (.con KL)=J (PB.map .int):=λ{h}=>by
    unfold pQ;rw[show tS (K0 23) h (.con KL)=J (.list (PB.map .int)) by show(K0 23).con KL=_;(rewrite [hK];try with_reducible rfl);exact hsa]
   have TT:=Sw (Ql (d:=9) (h2:=h20) (ns:=YD) EB brd hsa NH (by unfold YD;rw[bj,dv]) rfl rfl λw=>rfl);have main:oI (K0 23) GP.body (oU 36 [.con KL]) [] (qP 0 Q):=by
    refine bs (v:=.ref 1) (h1:=[.aT 0 7 1]++[.list (ns.map .int)]) (by
     have e1:ns.map V.int=(cn 7).map λi=>if i<PB.length then .int (PB.getD i 0) else .int 0:=by
      rw[hns];unfold YD;rw[h9];congr 1;funext i;show V.int (if _ then _ else _)=_;split<;>rfl
     rw[e1];refine Uy (lw _) (qd (be (ac (n:=7)) f8) ⋯) (by
      unfold Fm;show(match tS (K0 23) ([]++[O.aT 0 7 1]) (.ref 0) with | some (.list _)=>J It.list | some (.tup _)=>J It.tup | some (.aT a b s)=>if yP a&&yP b&&(s == 1||s == 2||s == -1) then J (It.aT a b s) else U | _=>U)=_;rw[show tS (K0 23) ([]++[O.aT 0 7 1]) (.ref 0)=J (.aT 0 7 1) from rfl];show(if _ then _ else _)=_;rw[cG (by
       have l0:yP 0=b9:=rC (n:=0) ⋯;have l7:yP 7=b9:=rC (n:=7) ⋯
       (rewrite [l0,l7];try with_reducible rfl);rfl)]
      rfl) ⋯ λj hj t=>?_
     have z:=t5 (K:=K0 23) (i:=27) (a:=.loc 0) (h:=[.aT 0 7 1]++t) (e:=(oU 36 [.con KL]).set 36 (J (nv j))) ∅ so (by rw[bj];lia);rw[bj] at z;by_cases h:j<PB.length
     .rw[cG h];refine Rq (t:=b9) (by have y:=Oj (r_loc (K:=K0 23) (i:=36) (v:=nv j) (e:=(oU 36 [.con KL]).set 36 (J (nv j))) (h:=[.aT 0 7 1]++t) rfl) z;rw[cC h] at y;exact y) rfl (λw=>pz ∅ ∅ so ?_ (by lia)) λe=>by cases e
      rw[cY,a7 h,ba,a7 h];rfl
     .rw[cH h];exact Rq (t:=cj) (by have y:=Oj (r_loc (K:=K0 23) (i:=36) (v:=nv j) (e:=(oU 36 [.con KL]).set 36 (J (nv j))) (h:=[.aT 0 7 1]++t) rfl) z;rw[cD h] at y;exact y) rfl (λe=>by cases e) λw=>qI) ?_
    obtain⟨n0,e0⟩:=(⟨_,a7 (by rw[nl];decide)⟩:∃n0,ns[0]? =J n0)
    obtain⟨b,hb⟩:=(⟨_,rfl⟩:∃b,b=(fg n0 (2:Nat)).toNat)
    have b2:b<2:=by rw[hb];exact sI _ ⋯
    have hh:∀{t:H},([O.aT 0 7 1]++[.list (ns.map .int)]++t)[1]? =J (.list (ns.map .int)):=λ{t}=>rfl;refine Ax (v:=.ref (2+b)) (h1:=[.aT 0 7 1]++[.list (ns.map .int)]++[.tup [nv 3,nv 4]]++[.tup [nv 7,nv 3]]++[.list [.ref 2,.ref 3]]) (vs:=if b=0 then[nv 3,nv 4] else[nv 7,nv 3]) (pz (xs:=[.ref 2,.ref 3]) (j:=b) (qp (be (sZ (be (ac (n:=3)) (be (ac (n:=4)) f8)) (by show(2:Nat)<=1000;decide)) (be (sZ (be (ac (n:=7)) (be (ac (n:=3)) f8)) (by show(2:Nat)<=1000;decide)) f8)) (by show(2:Nat)<=1000;decide)) (by
      rw[hb];exact sE (pz (xs:=ns.map .int) ∅ (ac (n:=0)) (io hh) (by rw[cY,e0];rfl) ⋯) (ac (n:=2)) ⋯) (io rfl) ?_ (by lia)) ?_ ?_ ?_
    .rcases (u2 (by assumption:b<2)) with h | h<;>rw[h]<;>rfl
    .rcases (u2 (by assumption:b<2)) with h | h<;>rw[h]<;>rfl
    .rcases (u2 (by assumption:b<2)) with h | h<;>rw[h]<;>rfl
    .rcases (u2 (by assumption:b<2)) with h | h
     .rw[cG h,hns,hQ];exact TT.1
     .rw[cH (by lia),hns,hQ];exact TT.2
   exact main.go
theorem law_from:dh.Holds:=Uk (Yc RR)
end
end
end Mine.Lake
end
theorem PySem.Challenge.cw_nt0468_01_holds : PySem.Challenge.rw_nt0468_01.Holds :=
 Mine.Lake.law_from
